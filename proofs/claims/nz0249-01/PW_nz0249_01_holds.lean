import PyProof.Rows.All
import Wide.All
import OpenK.AllK
import Wide.FinOn
import Lean
import PySem.Challenge.RW_nz0249_01
set_option Elab.async false
set_option maxRecDepth 100000
set_option pp.deepTerms false
set_option genSizeOf false
set_option linter.all false
open PySem PySem.W PySem.Calls
section
open PySem PySem.W PySem.Calls PyProof.Rows
namespace Mine

noncomputable def er : Value → Value
  | .int i _ => .int i 0
  | .float b _ => .float b 0
  | .str s _ => .str s 0
  | .bytes b _ => .bytes b 0
  | v => v
noncomputable abbrev I (i : Int) : Value := .int i 0
noncomputable abbrev S (s : Str) : Value := .str s 0

theorem er_int {v : Value} {i : Int} (h : er v = I i) : ∃ t, v = .int i t := by
  cases v <;> simp [er, I] at h; subst h; exact ⟨_, rfl⟩
theorem er_str {v : Value} {x : Str} (h : er v = S x) : ∃ t, v = .str x t := by
  cases v <;> simp [er, S] at h; subst h; exact ⟨_, rfl⟩
theorem er_ref {v : Value} {a : Addr} (h : er v = .ref a) : v = .ref a := by
  cases v <;> simp [er] at h; subst h; rfl
theorem er_bool {v : Value} {b : Bool} (h : er v = .bool b) : v = .bool b := by
  cases v <;> simp [er] at h; subst h; rfl
theorem er_none {v : Value} (h : er v = .none) : v = .none := by
  cases v <;> simp [er] at h; rfl
inductive Role where
  | plain | src | cell
  | planes (g : Nat)
  | plane (g p : Nat)
  | row (g p y : Nat)

inductive AObj where
  | list (r : Role) (vs : List Value)
  | tup (vs : List Value)
  | inst (C dx : Addr)
  | dict (fs : List (Str × Value))
  | rng (lo hi st : Int)

noncomputable abbrev Store := Addr → Option AObj
noncomputable def upd (σ : Store) (a : Addr) (o : AObj) : Store := fun b => if b = a then some o else σ b
theorem upd_self (σ : Store) (a : Addr) (o : AObj) : upd σ a o a = some o := by simp [upd]
theorem upd_ne {σ : Store} {a b : Addr} {o : AObj} (h : b ≠ a) : upd σ a o b = σ b := by simp [upd, h]

noncomputable def fieldOf (es : List DictEntry) (name : Str) : Option Value := (es.find? (·.key.isStr name)).map (·.val)
noncomputable def FieldsAre (es : List DictEntry) (fs : List (Str × Value)) : Prop := es.any (·.refKey) = false ∧ ∀ name, (fieldOf es name).map er = fs.lookup name
theorem FieldsAre.get {es : List DictEntry} {fs : List (Str × Value)} (h : FieldsAre es fs) (name : Str) : ∃ r, getL name es = some r ∧ r.map er = fs.lookup name := by
  refine ⟨fieldOf es name, ?_, h.2 name⟩
  unfold getL fieldOf
  cases es.find? (·.key.isStr name) with
  | some e => rfl
  | none => rw [h.1]; rfl

noncomputable def Conc (h : Heap) (a : Addr) : AObj → Prop
  | .list _ vs => ∃ ws n, h.get? a = some { cls := .type "list", data := .seq ws n } ∧ ws.toList.map er = vs
  | .tup vs => ∃ ws n, h.get? a = some { cls := .type "tuple", data := .seq ws n } ∧ ws.toList.map er = vs
  | .inst C dx => h.get? a = some (instObj C dx)
  | .dict fs => ∃ es n, h.get? a = some (dictOf es n) ∧ FieldsAre es fs ∧ es.length ≤ fs.length
  | .rng lo hi st => ∃ t u v, IsRange h a lo hi st t u v

theorem Conc.same {h h' : Heap} {a : Addr} {o : AObj} (c : Conc h a o) (e : h'.get? a = h.get? a) : Conc h' a o := by
  cases o <;> simpa only [Conc, IsRange, e] using c
theorem Conc.some {h : Heap} {a : Addr} {o : AObj} (c : Conc h a o) : ∃ ob, h.get? a = some ob := by
  cases o
  · obtain ⟨_, _, h, _⟩ := c; exact ⟨_, h⟩
  · obtain ⟨_, _, h, _⟩ := c; exact ⟨_, h⟩
  · exact ⟨_, c⟩
  · obtain ⟨_, _, h, _⟩ := c; exact ⟨_, h⟩
  · obtain ⟨_, _, _, h⟩ := c; exact ⟨_, h⟩

structure Cx (prog : Program) (K : Params → Frag) where
  w : World
  top : Heap
  os : OsState
  mg : Str → Option Value
  mb : Str → Option Value
  X : (K w.params).In top
  g : top.Ns mainGlobals mg
  b : top.Ns builtinsNs mb
  nolimit : top.NoLimit
  builtins : ∀ x : Str, x ≠ "__name__" → mb x = bootBuiltins x
  sizes : ∀ h : Heap, (∀ b o, top.get? b = some o → h.get? b = some o) → top.objs.size ≤ h.objs.size
  low : sysModules < top.objs.size

structure Fx (n : Nat) (ns : List (Str × NameKind)) where
  A : Around
  env : Env
  own : List Addr
  hns : env.scope.names = ns
  hk : env.scope.kind = .function
  hg : env.globals = mainGlobals
  hb : env.builtins = builtinsNs

noncomputable abbrev LM := List (Str × Value)

structure Loc (env : Env) (h : Heap) (m : LM) : Prop where
  ns : ∃ m', h.Ns env.locals m' ∧ ∀ x v, m.lookup x = some v → env.kindOf x = some .local → (m' x).map er = some v
  cells : ∀ x v, m.lookup x = some v → env.kindOf x = some .cell ∨ env.kindOf x = some .free → ∃ c u, env.cells.lookup x = some c ∧ h.IsCell c (some u) ∧ er u = v
  cellEx : ∀ x c, env.cells.lookup x = some c → ∃ v, h.IsCell c v

structure St {prog : Program} {K : Params → Frag} {n : Nat} {ns : List (Str × NameKind)} (C : Cx prog K) (Fz : Addr → Prop) (f : Fx n ns) (m : LM) (σ : Store) (s : Shared) : Prop where
  keep : ∀ b o, C.top.get? b = some o → s.heap.get? b = some o
  above : C.top.objs.size ≤ f.env.locals
  loc : Loc f.env s.heap m
  sto : ∀ a o, σ a = some o → Conc s.heap a o ∧ C.top.get? a = none ∧ ¬ Fz a ∧ a ∉ f.own
  fz : ∀ b, Fz b → (∃ o, s.heap.get? b = some o) ∧ b ∉ f.own
  gens : s.gens = #[]
  os : s.os = C.os
  own : ∀ b ∈ f.own, C.top.get? b = none ∧ ∃ o, s.heap.get? b = some o
  loWn : f.env.locals ∈ f.own
  cellsIn : ∀ x c, f.env.cells.lookup x = some c → c ∈ f.own ∨ Fz c

noncomputable def AOk (n : Nat) (A : Around) : Prop := A.depth + n ≤ 900 ∧ A.units + 10 * n ≤ 9000 ∧ A.handled = none

section
variable {prog : Program} {K : Params → Frag} {n : Nat} {ns : List (Str × NameKind)}

noncomputable def T {α : Type} (C : Cx prog K) (f : Fx n ns) (m : LM) (σ : Store) (t : Sem α) (Q : α → LM → Store → Prop) : Prop :=
  AOk n f.A → ∀ Fz s, St C Fz f m σ s → wpAny (model prog C.w) f.A t
    (fun v s' => ∃ m' σ', St C Fz f m' σ' s' ∧ (∀ b, Fz b → s'.heap.get? b = s.heap.get? b) ∧ Q v m' σ') (fun _ _ => False) s

noncomputable def Owns (C : Cx prog K) (Fz : Addr → Prop) (σ : Store) (s : Shared) : Prop :=
  (∀ b o, C.top.get? b = some o → s.heap.get? b = some o) ∧ (∀ a o, σ a = some o → Conc s.heap a o ∧ C.top.get? a = none ∧ ¬ Fz a) ∧
  (∀ b, Fz b → ∃ o, s.heap.get? b = some o) ∧ s.gens = #[] ∧ s.os = C.os

noncomputable def Spec (C : Cx prog K) (n : Nat) (fv : Value) (args : List Value) (σ : Store) (Q : Value → Store → Prop) : Prop :=
  ∀ A, AOk n A → ∀ Fz s ws, ws.map er = args → Owns C Fz σ s → codeAny (model prog C.w) A (.call fv ⟨ws, []⟩)
    (fun r s' => ∃ v σ', r = .ok (.ret v) ∧ Owns C Fz σ' s' ∧ (∀ b, Fz b → s'.heap.get? b = s.heap.get? b) ∧ Q (er v) σ') s

noncomputable abbrev TV (C : Cx prog K) (f : Fx n ns) (m : LM) (σ : Store) (t : Sem Value) (Q : Value → LM → Store → Prop) : Prop := T C f m σ t (fun v => Q (er v))
noncomputable abbrev TE (C : Cx prog K) (f : Fx n ns) (m : LM) (σ : Store) (e : Expr) (Q : Value → LM → Store → Prop) : Prop := T C f m σ (eval e f.env) (fun v => Q (er v))
variable {C : Cx prog K} {f : Fx n ns} {m : LM} {σ : Store}

theorem T.mono {α : Type} {t : Sem α} {Q Q' : α → LM → Store → Prop} (h : T C f m σ t Q) (hq : ∀ a m σ, Q a m σ → Q' a m σ) : T C f m σ t Q' :=
  fun ha Fz s hs => wpAny_mono (h ha Fz s hs) (fun _ _ ⟨m', σ', a, b, c⟩ => ⟨m', σ', a, b, hq _ _ _ c⟩) fun _ _ x => x

theorem T.run {α : Type} {t : Sem α} {Q : α → LM → Store → Prop} {R : α → Shared → Prop} {Fz : Addr → Prop} {s : Shared} (h : T C f m σ t Q) (ha : AOk n f.A) (hs : St C Fz f m σ s)
    (k : ∀ a m' σ' s', St C Fz f m' σ' s' → (∀ b, Fz b → s'.heap.get? b = s.heap.get? b) → Q a m' σ' → R a s') : wpAny (model prog C.w) f.A t R (fun _ _ => False) s :=
  wpAny_mono (h ha Fz s hs) (fun _ _ ⟨m', σ', a, b, c⟩ => k _ m' σ' _ a b c) fun _ _ x => x

theorem T.thn {α : Type} {t : Sem α} {Q : α → LM → Store → Prop} {Fz : Addr → Prop} {s s₀ : Shared} (h : T C f m σ t Q) (ha : AOk n f.A) (hs : St C Fz f m σ s)
    (hk : ∀ b, Fz b → s.heap.get? b = s₀.heap.get? b) : wpAny (model prog C.w) f.A t (fun v s' => ∃ m' σ', St C Fz f m' σ' s' ∧ (∀ b, Fz b → s'.heap.get? b = s₀.heap.get? b) ∧ Q v m' σ') (fun _ _ => False) s :=
  wpAny_mono (h ha Fz s hs) (fun _ _ ⟨m', σ', a, b, c⟩ => ⟨m', σ', a, fun x hx => (b x hx).trans (hk x hx), c⟩) fun _ _ x => x

theorem St.toks {Fz : Addr → Prop} {s s' : Shared} (h : St C Fz f m σ s) (e : s'.heap = s.heap) (eg : s'.gens = s.gens) (eo : s'.os = s.os) : St C Fz f m σ s' :=
  ⟨e ▸ h.keep, h.above, e ▸ h.loc, e ▸ h.sto, e ▸ h.fz, eg ▸ h.gens, eo ▸ h.os, e ▸ h.own, h.loWn, h.cellsIn⟩

theorem St.fr {Fz : Addr → Prop} {s : Shared} (h : St C Fz f m σ s) : ∃ m', Fr C.top f.env.locals s.heap m' ∧ ∀ x v, m.lookup x = some v → f.env.kindOf x = some .local → (m' x).map er = some v := by
  obtain ⟨m', hn, hm⟩ := h.loc.ns
  exact ⟨m', ⟨hn, h.keep, h.above⟩, hm⟩

theorem kind_def {env : Env} {x : Str} : env.kindOf x = env.scope.names.lookup x := rfl
theorem Fx.kind_of {n : Nat} {ns : List (Str × NameKind)} (f : Fx n ns) {x : Str} {k : NameKind} (h : ns.lookup x = some k) : f.env.kindOf x = some k := by
  exact (congrArg (List.lookup x) f.hns).trans h

theorem TE_local {x : Str} {pos : Pos} {v : Value} {Q : Value → LM → Store → Prop} (hv : m.lookup x = some v) (h : Q v m σ)
    (hl : ns.lookup x = some .local := by rfl) (hd : (x == ("__debug__" : Str)) = false := by decide) : TE C f m σ (.Name x pos) Q := by
  intro ha Fz s hs
  obtain ⟨m', hn, hm⟩ := hs.loc.ns
  have hl := f.kind_of hl
  have := hm x v hv hl
  cases e : m' x with
  | none => rw [e] at this; cases this
  | some u =>
    rw [e] at this
    have hu : er u = v := Option.some.inj this
    exact wpAny_Name (wpAny_loadName_local f.hk hl hn e ⟨m, σ, hs, fun _ _ => rfl, (by show Q (er u) m σ; rw [hu]; exact h)⟩) hd

theorem TE_cell {x : Str} {pos : Pos} {v : Value} {Q : Value → LM → Store → Prop} (hv : m.lookup x = some v) (h : Q v m σ)
    (hl : ns.lookup x = some .cell := by rfl) (hd : (x == ("__debug__" : Str)) = false := by decide) : TE C f m σ (.Name x pos) Q := by
  intro ha Fz s hs
  have hl := f.kind_of hl
  obtain ⟨c, u, hc, hi, hu⟩ := hs.loc.cells x v hv (.inl hl)
  exact wpAny_Name (wpAny_loadName_cell f.hk hl hc hi ⟨m, σ, hs, fun _ _ => rfl, (by show Q (er u) m σ; rw [hu]; exact h)⟩) hd

theorem TE_global {x : Str} {pos : Pos} {v : Value} {Q : Value → LM → Store → Prop} (hv : C.mg x = some v) (h : Q (er v) m σ) 
    (hl : ns.lookup x = some .globalImplicit := by rfl) (hd : (x == ("__debug__" : Str)) = false := by decide) : TE C f m σ (.Name x pos) Q := by
  intro ha Fz s hs
  exact Name_function_global f.hk (f.kind_of hl) (loadGlobal_global (by rw [f.hg]; exact C.g.keeps hs.keep) hv ⟨m, σ, hs, fun _ _ => rfl, h⟩) hd

theorem TE_builtin {x : Str} {pos : Pos} {v : Value} {Q : Value → LM → Store → Prop} (hn : C.mg x = none) (hv : bootBuiltins x = some v) (h : Q (er v) m σ) (hnn : x ≠ "__name__" := by decide)
    (hl : ns.lookup x = some .globalImplicit := by rfl) (hd : (x == ("__debug__" : Str)) = false := by decide) : TE C f m σ (.Name x pos) Q := by
  intro ha Fz s hs
  exact Name_function_global f.hk (f.kind_of hl) (loadGlobal_builtin (by rw [f.hg]; exact C.g.keeps hs.keep) hn (by rw [f.hb]; exact C.b.keeps hs.keep) ((C.builtins x hnn).trans hv) ⟨m, σ, hs, fun _ _ => rfl, h⟩) hd

theorem TE_int {i : Int} {k pos} {Q : Value → LM → Store → Prop} (h : Q (I i) m σ) : TE C f m σ (.Constant (.int i) k pos) Q :=
  fun _ _ _ hs => wpAny_Constant_int ⟨m, σ, hs.toks rfl rfl rfl, fun _ _ => rfl, h⟩
theorem TE_str {x : Str} {k pos} {Q : Value → LM → Store → Prop} (h : Q (S x) m σ) : TE C f m σ (.Constant (.str x) k pos) Q :=
  fun _ _ _ hs => Constant_str ⟨m, σ, hs.toks rfl rfl rfl, fun _ _ => rfl, h⟩
theorem TE_none {k pos} {Q : Value → LM → Store → Prop} (h : Q .none m σ) : TE C f m σ (.Constant .none k pos) Q :=
  fun _ _ _ hs => wpAny_pure (a := Value.none) ⟨m, σ, hs, fun _ _ => rfl, h⟩
theorem TE_boolc {b : Bool} {k pos} {Q : Value → LM → Store → Prop} (h : Q (.bool b) m σ) : TE C f m σ (.Constant (.bool b) k pos) Q :=
  fun _ _ _ hs => wpAny_pure (a := Value.bool b) ⟨m, σ, hs, fun _ _ => rfl, h⟩

noncomputable def Op2 (C : Cx prog K) (f : Fx n ns) (m : LM) (σ : Store) (op : Value → Value → Sem Value) (a b : Value) (Q : Value → LM → Store → Prop) : Prop :=
  ∀ u v, er u = a → er v = b → TV C f m σ (op u v) Q

theorem TE_BinOp {l r : Expr} {op pos} {Q : Value → LM → Store → Prop} (h : TE C f m σ l (fun a m₁ σ₁ => TE C f m₁ σ₁ r (fun b m₂ σ₂ => Op2 C f m₂ σ₂ (binaryOp op) a b Q))) :
    TE C f m σ (.BinOp l op r pos) Q := fun ha _ _ hs =>
  wpAny_BinOp (h.run ha hs fun _ _ _ _ h1 k1 q1 => q1.run ha h1 fun _ _ _ _ h2 k2 q2 => (q2 _ _ rfl rfl).thn ha h2 fun b hb => (k2 b hb).trans (k1 b hb))

theorem Op2_add {i j : Int} {Q : Value → LM → Store → Prop} (h : Q (I (i + j)) m σ) : Op2 C f m σ (binaryOp .Add) (I i) (I j) Q := fun u v hu hv => by
  obtain ⟨_, rfl⟩ := er_int hu
  obtain ⟨_, rfl⟩ := er_int hv
  exact fun _ _ _ hs => add_int ⟨m, σ, hs.toks rfl rfl rfl, fun _ _ => rfl, h⟩
theorem Op2_sub {i j : Int} {Q : Value → LM → Store → Prop} (h : Q (I (i - j)) m σ) : Op2 C f m σ (binaryOp .Sub) (I i) (I j) Q := fun u v hu hv => by
  obtain ⟨_, rfl⟩ := er_int hu
  obtain ⟨_, rfl⟩ := er_int hv
  exact fun _ _ _ hs => P.sub_int ⟨m, σ, hs.toks rfl rfl rfl, fun _ _ => rfl, h⟩
theorem Op2_mul {i j : Int} {Q : Value → LM → Store → Prop} (hm : IntMulOk i j) (h : Q (I (i * j)) m σ) : Op2 C f m σ (binaryOp .Mult) (I i) (I j) Q := fun u v hu hv => by
  obtain ⟨_, rfl⟩ := er_int hu
  obtain ⟨_, rfl⟩ := er_int hv
  exact fun _ _ _ hs => P.mul_int ⟨m, σ, hs.toks rfl rfl rfl, fun _ _ => rfl, h⟩ hm
theorem Op2_mod {i j : Int} {Q : Value → LM → Store → Prop} (hj : j ≠ 0) (h : Q (I (i.fmod j)) m σ) : Op2 C f m σ (binaryOp .Mod) (I i) (I j) Q := fun u v hu hv => by
  obtain ⟨_, rfl⟩ := er_int hu
  obtain ⟨_, rfl⟩ := er_int hv
  exact fun ha _ _ hs => mod_int_or ha.2.2 (fun e => absurd e hj) fun _ => ⟨m, σ, hs.toks rfl rfl rfl, fun _ _ => rfl, h⟩
theorem Op2_floordiv {i j : Int} {Q : Value → LM → Store → Prop} (hj : 0 < j) (hj' : j < 1073741824) (h : Q (I (i.fdiv j)) m σ) : Op2 C f m σ (binaryOp .FloorDiv) (I i) (I j) Q := fun u v hu hv => by
  obtain ⟨_, rfl⟩ := er_int hu
  obtain ⟨_, rfl⟩ := er_int hv
  exact fun _ _ _ hs => floordiv_int (by omega) ⟨m, σ, hs.toks rfl rfl rfl, fun _ _ => rfl, h⟩ (Or.inl (PyProof.noPylong_small (by omega)))

noncomputable def erF : Flow → Flow
  | .ret v => .ret (er v)
  | fl => fl
noncomputable abbrev TX (C : Cx prog K) (f : Fx n ns) (m : LM) (σ : Store) (t : Sem Flow) (Q : Flow → LM → Store → Prop) : Prop := T C f m σ t (fun fl => Q (erF fl))
noncomputable abbrev TB (C : Cx prog K) (f : Fx n ns) (m : LM) (σ : Store) (e : Expr) (Q : Bool → LM → Store → Prop) : Prop := T C f m σ (isTrue e f.env (eval e f.env)) Q

theorem TX_nil {Q : Flow → LM → Store → Prop} (h : Q .next m σ) : TX C f m σ (execs [] f.env) Q :=
  fun _ _ _ hs => wpAny_execs_nil ⟨m, σ, hs, fun _ _ => rfl, h⟩
noncomputable def Seq (C : Cx prog K) (f : Fx n ns) (rest : List Stmt) (Q : Flow → LM → Store → Prop) (fl : Flow) (m : LM) (σ : Store) : Prop := match fl with
  | .next => TX C f m σ (execs rest f.env) Q
  | fl => Q fl m σ
theorem TX_cons {st : Stmt} {rest : List Stmt} {Q : Flow → LM → Store → Prop} (h : TX C f m σ (exec st f.env) (Seq C f rest Q)) : TX C f m σ (execs (st :: rest) f.env) Q :=
  fun ha _ _ hs => wpAny_execs_cons (h.run ha hs fun fl m' σ' s' h1 k1 q1 => by
    cases fl with
    | next => exact T.thn q1 ha h1 k1
    | brk => exact ⟨m', σ', h1, k1, q1⟩
    | cont => exact ⟨m', σ', h1, k1, q1⟩
    | ret v => exact ⟨m', σ', h1, k1, q1⟩)
theorem TX_Return {e pos} {Q : Flow → LM → Store → Prop} (h : TE C f m σ e (fun v => Q (.ret v))) : TX C f m σ (exec (.Return (some e) pos) f.env) Q :=
  fun ha Fz s hs => wpAny_Return_some (h ha Fz s hs)
theorem TX_If {test body orelse pos} {Q : Flow → LM → Store → Prop} (h : TB C f m σ test (fun b m' σ' => if b = true then TX C f m' σ' (execs body f.env) Q else TX C f m' σ' (execs orelse f.env) Q)) :
    TX C f m σ (exec (.If test body orelse pos) f.env) Q := fun ha _ _ hs => wpAny_If (h.run ha hs fun b m' σ' s' h1 k1 q1 => by
      cases b
      · exact T.thn q1 ha h1 k1
      · exact T.thn q1 ha h1 k1)
theorem TX_Expr {e pos} {Q : Flow → LM → Store → Prop} (h : TE C f m σ e (fun v m' σ' => v = .none ∧ Q .next m' σ'))
    (hs : swapsWith e none pos.line f.env = pure false := by rfl) : TX C f m σ (exec (.Expr e pos) f.env) Q :=
  fun ha _ _ hst => wpAny_Expr (h.run ha hst fun v m' σ' s' h1 k1 q1 => by rw [er_none q1.1]; exact ⟨m', σ', h1, k1, q1.2⟩) (by unfold interactive; rw [f.hk]; rfl) hs

theorem Loc.same {env : Env} {h h' : Heap} {m : LM} (c : Loc env h m) (e : h'.get? env.locals = h.get? env.locals) (ec : ∀ x c, env.cells.lookup x = some c → h'.get? c = h.get? c) : Loc env h' m := by
  refine ⟨?_, fun x v hv hk => ?_, fun x c₁ hc => ?_⟩
  · obtain ⟨m', ⟨o, es, ep, ho, r⟩, hm⟩ := c.ns
    exact ⟨m', ⟨o, es, ep, e.trans ho, r⟩, hm⟩
  · obtain ⟨c', u, h1, ⟨o, h2, h2'⟩, h3⟩ := c.cells x v hv hk
    exact ⟨c', u, h1, ⟨o, (ec _ _ h1).trans h2, h2'⟩, h3⟩
  · obtain ⟨v, o, h2, h2'⟩ := c.cellEx x c₁ hc
    exact ⟨v, o, (ec _ _ hc).trans h2, h2'⟩
theorem Heap.notFreshTop {h h₀ : Heap} (k : ∀ b o, h₀.get? b = some o → h.get? b = some o) : h₀.get? h.objs.size = none := by
  cases q : h₀.get? h.objs.size with
  | none => rfl
  | some o => exact absurd (Heap.lt_size (k _ _ q)) (Nat.lt_irrefl _)

theorem St.ownChange {Fz : Addr → Prop} {m' : LM} {s s' : Shared} (h : St C Fz f m σ s) (hk : ∀ b o, b ∉ f.own → s.heap.get? b = some o → s'.heap.get? b = some o) (ho : ∀ b ∈ f.own, ∃ o, s'.heap.get? b = some o)
    (hl : Loc f.env s'.heap m') (eg : s'.gens = s.gens) (eo : s'.os = s.os) : St C Fz f m' σ s' ∧ ∀ b, Fz b → s'.heap.get? b = s.heap.get? b := by
  refine ⟨⟨fun b o e => hk b o (fun hb => ?_) (h.keep b o e), h.above, hl, fun a o e => ?_, fun b hb => ?_, eg.trans h.gens, eo.trans h.os, fun b hb => ⟨(h.own b hb).1, ho b hb⟩, h.loWn, h.cellsIn⟩, fun b hb => ?_⟩
  · rw [(h.own b hb).1] at e; cases e
  · obtain ⟨h1, h2, h3, h4⟩ := h.sto a o e
    obtain ⟨ob, hob⟩ := h1.some
    exact ⟨h1.same ((hk a ob h4 hob).trans hob.symm), h2, h3, h4⟩
  · obtain ⟨⟨o, ho'⟩, hn⟩ := h.fz b hb
    exact ⟨⟨o, hk b o hn ho'⟩, hn⟩
  · obtain ⟨⟨o, ho'⟩, hn⟩ := h.fz b hb
    rw [hk b o hn ho', ho']

theorem lookup_put {x y : Str} {v : Value} {m : LM} : ((x, v) :: m).lookup y = if y = x then some v else m.lookup y := by
  rw [List.lookup_cons]
  by_cases h : y = x
  · subst h; simp
  · have : (y == x) = false := beq_eq_false_iff_ne.mpr h
    simp [this, h]

theorem T_store {x : Str} {v : Value} {Q : Unit → LM → Store → Prop} (h : Q () ((x, er v) :: m) σ) (hl : ns.lookup x = some .local := by rfl) : T C f m σ (storeName f.env x v) Q := by
  have hl := f.kind_of hl
  intro ha Fz s hs
  obtain ⟨m', hn, hm⟩ := hs.loc.ns
  refine wpAny_storeName_local hl hn (fun h' hn' hsb => ?_) (by rw [f.hk]; rfl)
  have q := hs.ownChange (m' := (x, er v) :: m) (s' := { s with heap := h', toks := s.toks + 1 }) (fun b o hb e => (hsb.2 b (fun z => hb (z ▸ hs.loWn))).trans e) (fun b hb => ?_) ?_ rfl rfl
  · exact ⟨_, σ, q.1, q.2, h⟩
  · by_cases z : b = f.env.locals
    · subst z; obtain ⟨o, _, _, ho, _⟩ := hn'; exact ⟨o, ho⟩
    · obtain ⟨o, ho⟩ := (hs.own b hb).2; exact ⟨o, (hsb.2 b z).trans ho⟩
  · have ncell : ∀ c o v, s.heap.get? c = some o → o.data = .cell v → c ≠ f.env.locals := fun c o v h2 h2' e => by
      subst e
      obtain ⟨o', _, _, ho', hd', _⟩ := hn
      rw [h2] at ho'; cases ho'; rw [h2'] at hd'; cases hd'
    refine ⟨⟨_, hn', fun y u hy hky => ?_⟩, fun y u hy hky => ?_, fun y c hc => ?_⟩
    · rw [lookup_put] at hy
      by_cases z : y = x
      · subst z; simp only [if_true] at hy ⊢; exact hy
      · simp only [z, if_false] at hy ⊢; exact hm y u hy hky
    · rw [lookup_put] at hy
      by_cases z : y = x
      · subst z; rw [hl] at hky; rcases hky with e | e <;> cases e
      · simp only [z, if_false] at hy
        obtain ⟨c, u', h1, ⟨o, h2, h2'⟩, h3⟩ := hs.loc.cells y u hy hky
        exact ⟨c, u', h1, ⟨o, (hsb.2 c (ncell c o _ h2 h2')).trans h2, h2'⟩, h3⟩
    · obtain ⟨v', o, h2, h2'⟩ := hs.loc.cellEx y c hc
      exact ⟨v', o, (hsb.2 c (ncell c o _ h2 h2')).trans h2, h2'⟩

noncomputable def Stor (C : Cx prog K) (f : Fx n ns) (x : Str) : Prop := ∀ (v : Value) (m : LM) (σ : Store) (Q : Unit → LM → Store → Prop), Q () ((x, er v) :: m) σ → T C f m σ (storeName f.env x v) Q
theorem Stor_local {x : Str} (hl : ns.lookup x = some .local) : Stor C f x := fun v m σ Q h => T_store h hl

structure Owner (f : Fx n ns) : Prop where
  mem : ∀ x c, f.env.cells.lookup x = some c → c ∈ f.own
  inj : ∀ x y c, f.env.cells.lookup x = some c → f.env.cells.lookup y = some c → x = y
  has : ∀ x, ns.lookup x = some .cell → ∃ c, f.env.cells.lookup x = some c
theorem Stor_cell {x : Str} (ho : Owner f) (hl : ns.lookup x = some .cell) : Stor C f x := fun v m σ Q h => by
  intro ha Fz s hs
  obtain ⟨c, hc⟩ := ho.has x hl
  obtain ⟨v₀, hv₀⟩ := hs.loc.cellEx x c hc
  refine wpAny_storeName_cell f.hk (f.kind_of hl) hc hv₀ fun h' hcell hsb => ?_
  obtain ⟨m', hn, hm⟩ := hs.loc.ns
  have hcl : f.env.locals ≠ c := fun e => by
    obtain ⟨o, h2, h2'⟩ := hv₀
    subst e
    obtain ⟨o', _, _, ho', hd', _⟩ := hn
    rw [h2] at ho'; cases ho'; rw [h2'] at hd'; cases hd'
  have q := hs.ownChange (m' := (x, er v) :: m) (s' := { s with heap := h' }) (fun b o hb e => (hsb.2 b (fun z => hb (z ▸ ho.mem x c hc))).trans e) (fun b hb => ?_) ?_ rfl rfl
  · exact ⟨_, σ, q.1, q.2, h⟩
  · by_cases z : b = c
    · subst z; obtain ⟨o, ho', _⟩ := hcell; exact ⟨o, ho'⟩
    · obtain ⟨o, ho'⟩ := (hs.own b hb).2; exact ⟨o, (hsb.2 b z).trans ho'⟩
  · refine ⟨⟨m', ?_, fun y u hy hky => ?_⟩, fun y u hy hky => ?_, fun y c' hc' => ?_⟩
    · obtain ⟨o, es, ep, hoo, r⟩ := hn
      exact ⟨o, es, ep, (hsb.2 _ hcl).trans hoo, r⟩
    · rw [lookup_put] at hy
      by_cases z : y = x
      · subst z; rw [f.kind_of hl] at hky; cases hky
      · simp only [z, if_false] at hy; exact hm y u hy hky
    · rw [lookup_put] at hy
      by_cases z : y = x
      · subst z; simp only [if_true] at hy; exact ⟨c, v, hc, hcell, Option.some.inj hy⟩
      · simp only [z, if_false] at hy
        obtain ⟨c', u', h1, ⟨o, h2, h2'⟩, h3⟩ := hs.loc.cells y u hy hky
        refine ⟨c', u', h1, ⟨o, (hsb.2 c' fun e => z (ho.inj y x c (e ▸ h1) hc)).trans h2, h2'⟩, h3⟩
    · by_cases z : c' = c
      · subst z; exact ⟨_, hcell⟩
      · obtain ⟨v', o, h2, h2'⟩ := hs.loc.cellEx y c' hc'
        exact ⟨v', o, (hsb.2 c' z).trans h2, h2'⟩

theorem TX_Assign {x pos' value pos} {Q : Flow → LM → Store → Prop} (h : TE C f m σ value (fun v m' σ' => Q .next ((x, v) :: m') σ'))
    (hl : Stor C f x := by first | exact Stor_local (by rfl) | exact Stor_cell (by assumption) (by rfl)) (hs : swapsWith value (some (.Name x pos')) pos.line f.env = pure false := by rfl) :
    TX C f m σ (exec (.Assign [.Name x pos'] value pos) f.env) Q :=
  fun ha _ _ hst => wpAny_Assign_Name (h.run ha hst fun v _ _ _ h1 k1 q1 => wpAny_mono (T.thn (hl _ _ _ (fun _ m σ => Q .next m σ) q1) ha h1 k1) (fun _ _ x => x) fun _ _ x => x) hs

noncomputable def retOf : Flow → Value
  | .ret v => v
  | _ => .none
theorem St.owns {Fz : Addr → Prop} {s : Shared} (h : St C Fz f m σ s) : Owns C Fz σ s := ⟨h.keep, fun a o e => ⟨(h.sto a o e).1, (h.sto a o e).2.1, (h.sto a o e).2.2.1⟩, fun b hb => (h.fz b hb).1, h.gens, h.os⟩

theorem lookup_reverse {l : List (Str × Value)} (h : (l.map (·.1)).Nodup) (x : Str) : l.reverse.lookup x = l.lookup x := by
  induction l with
  | nil => rfl
  | cons p r ih =>
    obtain ⟨k, v⟩ := p
    rw [List.map_cons, List.nodup_cons] at h
    rw [List.reverse_cons, List.lookup_append, ih h.2, List.lookup_cons, List.lookup_cons, List.lookup_nil]
    by_cases z : (x == k) = true
    · have := eq_of_beq z; subst this
      have : r.lookup x = none := by
        cases q : r.lookup x with
        | none => rfl
        | some u =>
          exfalso; apply h.1
          clear ih h z
          induction r with
          | nil => cases q
          | cons p' r ih =>
            obtain ⟨k', v'⟩ := p'
            rw [List.lookup_cons] at q
            by_cases z : (x == k') = true
            · have := eq_of_beq z; subst this; exact List.mem_cons_self
            · simp only [z] at q; exact List.mem_cons_of_mem _ (ih q)
      rw [this]; simp
    · have z' : (x == k) = false := by simpa using z
      rw [z']; cases r.lookup x <;> rfl
theorem lookup_er {l : List (Str × Value)} (x : Str) : (l.map fun p => (p.1, er p.2)).lookup x = (l.lookup x).map er := by
  induction l with
  | nil => rfl
  | cons p r ih => obtain ⟨k, w⟩ := p; simp only [List.map_cons, List.lookup_cons]; cases x == k <;> simp [ih]
theorem mem_of_lookup {l : List (Str × Value)} {x : Str} {v : Value} (h : l.lookup x = some v) : ∃ u, (x, u) ∈ l := by
  induction l with
  | nil => cases h
  | cons p r ih =>
    obtain ⟨k, w⟩ := p
    rw [List.lookup_cons] at h
    by_cases z : (x == k) = true
    · have := eq_of_beq z; subst this; exact ⟨w, List.mem_cons_self⟩
    · simp only [z] at h; obtain ⟨u, hu⟩ := ih h; exact ⟨u, List.mem_cons_of_mem _ hu⟩

noncomputable def distinct : List Str → Bool
  | [] => true
  | x :: r => !r.contains x && distinct r
theorem nodup_of_distinct : ∀ {l : List Str}, distinct l = true → l.Nodup
  | [], _ => .nil
  | x :: r, h => by
    simp only [distinct, Bool.and_eq_true, Bool.not_eq_true', List.contains_eq_mem, decide_eq_false_iff_not] at h
    exact List.nodup_cons.mpr ⟨h.1, nodup_of_distinct h.2⟩
theorem zip_fst {names : List Str} {vs : List Value} (h : names.Nodup) : ((names.zip vs).map (·.1)).Nodup := by
  induction names generalizing vs with
  | nil => simp
  | cons x r ih =>
    cases vs with
    | nil => simp
    | cons v vs =>
      rw [List.nodup_cons] at h
      rw [List.zip_cons_cons, List.map_cons, List.nodup_cons]
      refine ⟨fun q => h.1 ?_, ih h.2⟩
      obtain ⟨p, hp, e⟩ := List.mem_map.mp q
      have := (List.of_mem_zip hp).1
      rwa [show p.1 = x from e] at this

structure DefOk (K : Frag) (fa : Addr) (n : Nat) (names : List Str) (ns : List (Str × NameKind)) (body : List Stmt) (args : List Value) : Prop where
  out : ∃ o fd, K.lookup fa = some o ∧ o.data = .func fd ∧ fd.body = .stmts body ∧ codeIn K fd.code fd.qualname = true ∧
    (∀ ws : List Value, ws.map er = args → bindArgs fd ⟨ws, []⟩ = pure (names.zip ws)) ∧ distinct names = true ∧ (names.all fun x => fd.scope.names.lookup x == some .local) = true ∧
    (fd.scope.names.all fun x => x.2 != .cell) = true ∧ fd.closure = [] ∧ fd.scope.isCoroutine = false ∧ fd.scope.isGenerator = false ∧ fd.scope.kind = .function ∧
    fd.scope.names = ns ∧ fd.globals = mainGlobals ∧ fd.builtins = builtinsNs

theorem Spec_def {fa : Addr} {body : List Stmt} {names : List Str} {args : List Value} {Q : Value → Store → Prop}
    (hd : DefOk (K C.w.params) fa n names ns body args)
    (h : ∀ f : Fx n ns, TX C f (names.zip args) σ (execs body f.env) (fun fl _ σ' => Q (retOf fl) σ')) :
    Spec C (n + 1) (.ref fa) args σ Q := by
  obtain ⟨o, fd, ho, hd, hb, hcode, hbind, hdis, hloc, hcell, hcl, hco, hgen, hk, hns, hgl, hbl⟩ := hd.out
  intro A ha Fz s ws hws hOw
  have hX := C.X.keeps hOw.1
  have hnd := nodup_of_distinct hdis
  refine codeAny_call_def (binds := names.zip ws) (by have := ha.1; unfold recursionLimit; omega) (hX _ _ ho) hd (C.nolimit.keeps hOw.1) (codeRec_of hX hcode) hb (BindsTo.of_eq (hbind ws hws)) (fun x hx => ?_) (fun x hx => ?_) (fun h₀ hn hkeep => ?_) hco hgen hk
  · have := List.all_eq_true.mp hcell x hx
    simpa using this
  · have := List.all_eq_true.mp hloc x.1 (List.of_mem_zip hx).1
    simpa using this
  · have hsz : ∀ b o, s.heap.get? b = some o → b ≠ s.heap.objs.size := fun b o e => Nat.ne_of_lt (Heap.lt_size e)
    let fx : Fx n ns := ⟨Around.deeper A (callEnv fd s.heap.objs.size fa), callEnv fd s.heap.objs.size fa, [s.heap.objs.size], hns, hk, hgl, hbl⟩
    have hst : St C Fz fx (names.zip args) σ { s with heap := h₀, toks := s.toks + (names.zip ws).length } := by
      refine ⟨fun b o e => hkeep b o (hOw.1 b o e), C.sizes s.heap hOw.1, ⟨⟨_, hn, fun x v hv _ => ?_⟩, fun x v hv hkc => ?_, fun x c hc => ?_⟩, fun a o e => ?_, fun b hb => ?_, hOw.2.2.2.1, hOw.2.2.2.2, fun b hb => ?_, List.mem_singleton.mpr rfl, fun x c hc => ?_⟩
      · have e : names.zip args = (names.zip ws).map fun p => (p.1, er p.2) := by
          rw [← hws, List.zip_map_right]
          rfl
        rw [e, lookup_er] at hv
        rw [lookup_reverse (zip_fst hnd)]
        exact hv
      · exfalso
        have hkk : fd.scope.names.lookup x = some .cell ∨ fd.scope.names.lookup x = some .free := hkc
        obtain ⟨u, hu⟩ := mem_of_lookup hv
        have := List.all_eq_true.mp hloc x (List.of_mem_zip hu).1
        rcases hkk with q | q <;> rw [q] at this <;> cases this
      · have : fx.env.cells = [] := hcl
        rw [this] at hc
        cases hc
      · obtain ⟨h1, h2, h3⟩ := hOw.2.1 a o e
        obtain ⟨ob, hob⟩ := h1.some
        exact ⟨h1.same ((hkeep _ _ hob).trans hob.symm), h2, h3, fun z => hsz _ _ hob (List.mem_singleton.mp z)⟩
      · obtain ⟨o, ho'⟩ := hOw.2.2.1 b hb
        exact ⟨⟨o, hkeep _ _ ho'⟩, fun z => hsz _ _ ho' (List.mem_singleton.mp z)⟩
      · rw [List.mem_singleton.mp hb]
        obtain ⟨o, _, _, ho', _⟩ := hn
        exact ⟨Heap.notFreshTop hOw.1, o, ho'⟩
      · have : fx.env.cells = [] := hcl
        rw [this] at hc
        cases hc
    refine wpAny_mono (h fx ⟨?_, ?_, ha.2.2⟩ Fz _ hst) (fun fl s' ⟨m', σ', h1, k1, q1⟩ => ?_) fun _ _ x => x.elim
    · have := ha.1; show A.depth + 1 + n ≤ 900; omega
    · have := ha.2.1; show A.units + 3 + 10 * n ≤ 9000; omega
    · refine ⟨retOf fl, σ', ?_, h1.owns, fun b hb => ?_, ?_⟩
      · cases fl <;> rfl
      · obtain ⟨o, ho'⟩ := hOw.2.2.1 b hb
        exact (k1 b hb).trans ((hkeep _ _ ho').trans ho'.symm)
      · cases fl <;> exact q1
end
end Mine
end
section
open PySem PySem.W PySem.Calls PyProof.Rows
namespace Mine
section
variable {prog : Program} {K : Params → Frag} {n : Nat} {ns : List (Str × NameKind)}
variable {C : Cx prog K} {f : Fx n ns} {m : LM} {σ : Store}

noncomputable abbrev TArgs (C : Cx prog K) (f : Fx n ns) (m : LM) (σ : Store) (pos : Pos) (es : List Expr) (Q : List Value → LM → Store → Prop) : Prop :=
  T C f m σ (spliced (backTo pos (starEach es f.env))) (fun vs => Q (vs.map er))
theorem TArgs_nil {pos : Pos} {Q : List Value → LM → Store → Prop} (h : Q [] m σ) : TArgs C f m σ pos [] Q := fun _ _ _ hs => spliced_none ⟨m, σ, hs, fun _ _ => rfl, h⟩
theorem TArgs_cons {pos : Pos} {e : Expr} {es : List Expr} {Q : List Value → LM → Store → Prop} (h : TE C f m σ e (fun v m' σ' => TArgs C f m' σ' pos es (fun vs => Q (v :: vs))))
    (he : starEach (e :: es) f.env = (false, eval e f.env) :: starEach es f.env := by rfl) : TArgs C f m σ pos (e :: es) Q :=
  fun ha _ _ hs => spliced_more (h.run ha hs fun v m' σ' s' h1 k1 q1 => T.thn q1 ha h1 k1) he

noncomputable def CallV (C : Cx prog K) (f : Fx n ns) (m : LM) (σ : Store) (fv : Value) (vs : List Value) (Q : Value → LM → Store → Prop) : Prop :=
  ∀ ws : List Value, ws.map er = vs → TV C f m σ (call fv ws) Q

theorem Owns.of {Fz : Addr → Prop} {s : Shared} (h : St C Fz f m σ s) : Owns C (fun b => Fz b ∨ b ∈ f.own) σ s :=
  ⟨h.keep, fun a o e => ⟨(h.sto a o e).1, (h.sto a o e).2.1, fun q => q.elim (h.sto a o e).2.2.1 (h.sto a o e).2.2.2⟩, fun b hb => hb.elim (fun q => (h.fz b q).1) fun q => (h.own b q).2, h.gens, h.os⟩

theorem St.back {Fz : Addr → Prop} {s s' : Shared} {σ' : Store} (h : St C Fz f m σ s) (hO : Owns C (fun b => Fz b ∨ b ∈ f.own) σ' s') (hk : ∀ b, (Fz b ∨ b ∈ f.own) → s'.heap.get? b = s.heap.get? b) : St C Fz f m σ' s' := by
  refine ⟨hO.1, h.above, h.loc.same (hk _ (.inr h.loWn)) (fun x c hc => hk c ((h.cellsIn x c hc).symm)), fun a o e => ?_, fun b hb => ?_, hO.2.2.2.1, hO.2.2.2.2, fun b hb => ?_, h.loWn, h.cellsIn⟩
  · obtain ⟨h1, h2, h3⟩ := hO.2.1 a o e
    exact ⟨h1, h2, fun q => h3 (.inl q), fun q => h3 (.inr q)⟩
  · obtain ⟨⟨o, ho⟩, hn⟩ := h.fz b hb
    exact ⟨⟨o, (hk b (.inl hb)).trans ho⟩, hn⟩
  · obtain ⟨ht, o, ho⟩ := h.own b hb
    exact ⟨ht, o, (hk b (.inr hb)).trans ho⟩

theorem AOk.le {k n : Nat} {A : Around} (h : AOk n A) (hk : k ≤ n) : AOk k A := ⟨by have := h.1; omega, by have := h.2.1; omega, h.2.2⟩

theorem CallV_spec {k : Nat} {fv : Value} {vs : List Value} {Q : Value → LM → Store → Prop} (h : Spec C k fv vs σ (fun v σ' => Q v m σ')) (hk : k ≤ n := by decide) : CallV C f m σ fv vs Q := by
  intro ws hws ha Fz s hs
  refine wpAny_call (codeAny_mono (h f.A (ha.le hk) _ s ws hws (Owns.of hs)) fun r s' ⟨v, σ', e, hO, hkp, q⟩ => ?_)
  subst e
  exact ⟨m, σ', hs.back hO hkp, fun b hb => hkp b (.inl hb), q⟩

inductive Callable (K : Frag) : Value → Prop
  | fn {a : Addr} : keepIn K (.ref a) = true → Callable K (.ref a)
  | bi {id : String} : Callable K (.builtin id)
  | ty {t : String} : Callable K (.type t)

theorem evalArgs_any {M : Model} {A : Around} {E : Value → Shared → Prop} {s : Shared} {fv : Value} {args : List (Bool × Sem Value)} {Q : Args → Shared → Prop} (hp : args.any (·.1) = false)
    (h : wpAny M A (spliced args) (fun vs s' => Q ⟨vs, []⟩ s') E s) : wpAny M A (evalArgs fv true args []) Q E s := by
  cases args with
  | nil =>
    unfold evalArgs
    show wpAny M A (spliced [] >>= _) Q E s
    exact wpAny_bind (wpAny_mono h (fun vs s' h' => wpAny_bind (wpAny_pure (wpAny_holding (wpAny_bind (wpAny_pure (wpAny_bind (wpAny_pure (wpAny_pure h')))))))) fun _ _ x => x)
  | cons x rest =>
    obtain ⟨b, x⟩ := x
    cases b with
    | true => simp at hp
    | false => exact evalArgs_plain h

theorem callWith_any {A : Around} {E : Value → Shared → Prop} {s : Shared} {fv : Value} {first : List Value} {args : List (Bool × Sem Value)} {pos : Pos} {Q : Value → Shared → Prop} {K' : Frag} (hc : Callable K' fv) (hp : args.any (·.1) = false)
    (h : wpAny (model prog C.w) A (spliced args) (fun vs s' => K'.In s'.heap ∧ wpAny (model prog C.w) A (call fv (first ++ vs)) Q E s') E s) : wpAny (model prog C.w) A (callWith pos fv first args []) Q E s := by
  cases hc with
  | fn hkp => exact callWith_of (by rw [hp]; rfl) (keeps_K hkp) (evalArgs_any hp h)
  | bi => exact Calls.callWith_builtin hp (evalArgs_any hp (wpAny_mono h (fun _ _ x => x.2) fun _ _ x => x))
  | ty => exact PySem.callWith_type hp (evalArgs_any hp (wpAny_mono h (fun _ _ x => x.2) fun _ _ x => x))

theorem Callable.same {K' : Frag} {fv v : Value} (h : Callable K' fv) (e : er v = fv) : v = fv := by
  cases h with
  | fn => exact er_ref e
  | bi => cases v <;> simp [er] at e; subst e; rfl
  | ty => cases v <;> simp [er] at e; subst e; rfl

theorem TE_Call {g : Expr} {es : List Expr} {pos : Pos} {Q : Value → LM → Store → Prop}
    (h : TE C f m σ g (fun fv m' σ' => Callable (K C.w.params) fv ∧ TArgs C f m' σ' pos es (fun vs m₂ σ₂ => CallV C f m₂ σ₂ fv vs Q)))
    (he : eval (.Call g es [] pos) f.env = (do callWith pos (← eval g f.env) [] (backTo pos (starEach es f.env)) (backToKw pos (keywordEach [] f.env))) := by rfl)
    (hp : ((backTo pos (starEach es f.env)).any (·.1)) = false := by rfl) :
    TE C f m σ (.Call g es [] pos) Q := fun ha Fz s hs => by
  refine Call_ (h.run ha hs fun fv m' σ' s' h1 k1 q1 => ?_) he
  obtain ⟨hc, q1⟩ := q1
  have e := hc.same rfl
  rw [← e] at hc q1
  refine callWith_any hc hp (q1.run ha h1 fun ws m₂ σ₂ s₂ h2 k2 q2 => ⟨C.X.keeps h2.keep, ?_⟩)
  exact T.thn (q2 ws rfl) ha h2 fun b hb => (k2 b hb).trans (k1 b hb)

theorem TE_Meth {o : Expr} {name : Str} {apos pos : Pos} {es : List Expr} {pl : Sem Bool} {Q : Value → LM → Store → Prop}
    (h : TE C f m σ o (fun ov m' σ' => ∃ x cl dx fs g, ov = .ref x ∧ σ' x = some (.inst cl dx) ∧ σ' dx = some (.dict fs) ∧ fs.lookup name = none ∧ plainGet (K C.w.params) cl name = true ∧
      findIn (K C.w.params) (.ref cl) name = some (some (.ref g)) ∧ isFn (K C.w.params) (.ref g) = true ∧ keepIn (K C.w.params) (.ref g) = true ∧
      TArgs C f m' σ' pos es (fun vs m₂ σ₂ => CallV C f m₂ σ₂ (.ref g) (.ref x :: vs) Q)))
    (he : eval (.Call (.Attribute o name apos) es [] pos) f.env = (do
      let ov ← eval o f.env
      standAt apos.atName
      let (f', first) ← holding [ov] (getMethod ov name pl)
      callWith pos f' first (backTo pos (starEach es f.env)) []) := by rfl)
    (hp : ((backTo pos (starEach es f.env)).any (·.1)) = false := by rfl) : TE C f m σ (.Call (.Attribute o name apos) es [] pos) Q := fun ha Fz s hs => by
  refine MethodCall_ (pl := pl) (h.run ha hs fun ov m' σ' s' h1 k1 q1 => ?_) he
  obtain ⟨x, cl, dx, fs, g, e, hx, hdx, hfs, hpg, hf, hfn, hkp, q1⟩ := q1
  have e := er_ref e
  subst e
  obtain ⟨cx, ct, _, _⟩ := h1.sto _ _ hx
  obtain ⟨⟨es', n', hod, hfa, _⟩, _, _, _⟩ := h1.sto _ _ hdx
  obtain ⟨r, hr, hr'⟩ := hfa.get name
  rw [hfs] at hr'
  have hr0 : r = none := by cases r with
    | none => rfl
    | some v => cases hr'
  subst hr0
  have X := C.X.keeps h1.keep
  refine method_fn (w := C.w) (od := some (dictOf es' n')) X ⟨cx, rfl, rfl, hod⟩ (plainGet_of hpg).1 (plainGet_of hpg).2 hf (beq_iff_eq.mp hfn) (by unfold shadowIn; simp only [lookIn_dict, hr]; rfl) ?_
  refine callWith_any (.fn hkp) hp (q1.run ha h1 fun ws m₂ σ₂ s₂ h2 k2 q2 => ⟨C.X.keeps h2.keep, ?_⟩)
  exact T.thn (q2 (.ref x :: ws) rfl) ha h2 fun b hb => (k2 b hb).trans (k1 b hb)

structure AttrOk (K' : Frag) (cl : Addr) (name : Str) : Prop where
  pg : plainGet K' cl name = true
  hd : hasDictIn K' cl = true
  fi : findIn K' (.ref cl) name = some none

theorem TE_Attr {o : Expr} {name : Str} {pos : Pos} {Q : Value → LM → Store → Prop}
    (h : TE C f m σ o (fun ov m' σ' => ∃ x cl dx fs v, ov = .ref x ∧ σ' x = some (.inst cl dx) ∧ σ' dx = some (.dict fs) ∧ fs.lookup name = some v ∧ AttrOk (K C.w.params) cl name ∧ (∀ id, v ≠ .builtin id) ∧ Q v m' σ'))
    (he : eval (.Attribute o name pos) f.env = (do
      let o' ← eval o f.env
      standAt pos.atName
      let r ← holding [o'] (getAttr o' name true)
      letTemporaryGo o o' r
      pure r) := by rfl) : TE C f m σ (.Attribute o name pos) Q := fun ha Fz s hs => by
  refine Attribute_any_ (h.run ha hs fun ov m' σ' s' h1 k1 q1 => ?_) he
  obtain ⟨x, cl, dx, fs, v, e, hx, hdx, hfs, ok, hnb, q1⟩ := q1
  have e := er_ref e
  subst e
  obtain ⟨cx, ct, _, _⟩ := h1.sto _ _ hx
  obtain ⟨⟨es', n', hod, hfa, _⟩, _, _, _⟩ := h1.sto _ _ hdx
  obtain ⟨r, hr, hr'⟩ := hfa.get name
  rw [hfs] at hr'
  cases r with
  | none => cases hr'
  | some u =>
    have hu : er u = v := Option.some.inj hr'
    have X := C.X.keeps h1.keep
    refine get_value (w := C.w) (od := some (dictOf es' n')) X ⟨cx, rfl, rfl, hod⟩ (plainGet_of ok.pg).1 (findObj_own ok.hd ok.fi rfl (by rw [lookIn_dict, hr])) ?_ ⟨m', σ', h1.toks rfl rfl rfl, k1, (by show Q (er u) m' σ'; rw [hu]; exact q1)⟩
    cases u <;> first | rfl | exact absurd hu.symm (hnb _)

theorem TE_Sub {o i : Expr} {pos : Pos} {Q : Value → LM → Store → Prop}
    (h : TE C f m σ o (fun ov m₁ σ₁ => TE C f m₁ σ₁ i (fun iv m₂ σ₂ => ∃ (a : Addr) (k : Int) (v : Value), ov = .ref a ∧ iv = I k ∧ 0 ≤ k ∧ k < 2 ^ 62 ∧ ((∃ r vs, σ₂ a = some (.list r vs) ∧ vs[k.toNat]? = some v) ∨ ∃ vs, σ₂ a = some (.tup vs) ∧ vs[k.toNat]? = some v) ∧ Q v m₂ σ₂)))
    (hs : ∀ a k u, subscripted i false (.ref a) (.int k u) = operate [.ref a, .int k u] (getItem (.ref a) (.int k u)) := by (intro _ _ _; with_unfolding_all rfl)) : TE C f m σ (.Subscript o i pos) Q := fun ha Fz s hst => by
  refine Subscript_ (h.run ha hst fun ov m₁ σ₁ s₁ h1 k1 q1 => q1.run ha h1 fun iv m₂ σ₂ s₂ h2 k2 q2 => ?_)
  obtain ⟨a, k, v, e1, e2, h0, hh, hv, q2⟩ := q2
  have e1 := er_ref e1
  obtain ⟨t, e2⟩ := er_int e2
  subst e1 e2
  have fin : ∀ u, er u = v → ∃ m' σ', St C Fz f m' σ' s₂ ∧ (∀ b, Fz b → s₂.heap.get? b = s.heap.get? b) ∧ Q (er u) m' σ' := fun u hu => ⟨m₂, σ₂, h2, fun b hb => (k2 b hb).trans (k1 b hb), by rw [hu]; exact q2⟩
  have get : ∀ {ws : Array Value} {vs : List Value}, ws.toList.map er = vs → vs[k.toNat]? = some v → ∃ u, ws[k.toNat]? = some u ∧ er u = v := fun {ws vs} e hv => by
    rw [← e, List.getElem?_map, Array.getElem?_toList] at hv
    cases q : ws[k.toNat]? with
    | none => rw [q] at hv; cases hv
    | some u => rw [q] at hv; exact ⟨u, rfl, Option.some.inj hv⟩
  rcases hv with ⟨r, vs, hl, hv⟩ | ⟨vs, hl, hv⟩
  · obtain ⟨⟨ws, n', hg, hw⟩, _⟩ := h2.sto _ _ hl
    obtain ⟨u, hu, hu'⟩ := get hw hv
    have il : s₂.heap.IsList a ws := ⟨_, hg, rfl, _, rfl⟩
    exact tail_any il.typeIs slot_list_getitem.lookup (wpAny_getItem_list il h0 (by omega) hu (fin u hu')) (hs _ _ _)
  · obtain ⟨⟨ws, n', hg, hw⟩, _⟩ := h2.sto _ _ hl
    obtain ⟨u, hu, hu'⟩ := get hw hv
    have it : IsTup s₂.heap a ws := ⟨_, hg, rfl, _, rfl⟩
    have hlt : k.toNat < ws.size := by
      obtain ⟨hlt, _⟩ := Array.getElem?_eq_some_iff.mp hu
      exact hlt
    refine item_tupleT (j := k.toNat) it (by omega) (by omega) ?_ (by simpa using hu) (fin u hu') (hs _ _ _)
    have hlen : ws.toList.length = ws.size := by simp
    unfold seqIndex?
    simp only [show ¬ k < 0 by omega, if_false, hlen]
    simp
    omega

theorem Owns.fresh {Fz : Addr → Prop} {s : Shared} (h : St C Fz f m σ s) : σ s.heap.objs.size = none ∧ ¬ Fz s.heap.objs.size ∧ s.heap.objs.size ∉ f.own := by
  refine ⟨?_, fun q => ?_, fun q => ?_⟩
  · cases q : σ s.heap.objs.size with
    | none => rfl
    | some o => obtain ⟨ob, hob⟩ := (h.sto _ _ q).1.some; exact absurd (Heap.lt_size hob) (Nat.lt_irrefl _)
  · obtain ⟨⟨o, ho⟩, _⟩ := h.fz _ q; exact absurd (Heap.lt_size ho) (Nat.lt_irrefl _)
  · obtain ⟨_, o, ho⟩ := h.own _ q; exact absurd (Heap.lt_size ho) (Nat.lt_irrefl _)

theorem St.grow {Fz : Addr → Prop} {s s' : Shared} {σ' : Store} (h : St C Fz f m σ s) (hk : ∀ b o, s.heap.get? b = some o → s'.heap.get? b = some o)
    (hn : ∀ a o, σ' a = some o → σ a = some o ∨ (Conc s'.heap a o ∧ s.heap.get? a = none)) (eg : s'.gens = s.gens) (eo : s'.os = s.os) : St C Fz f m σ' s' ∧ ∀ b, Fz b → s'.heap.get? b = s.heap.get? b := by
  have sm : ∀ b o, s.heap.get? b = some o → s'.heap.get? b = s.heap.get? b := fun b o e => (hk b o e).trans e.symm
  refine ⟨⟨fun b o e => hk b o (h.keep b o e), h.above, h.loc.same ?_ fun x c hc => ?_, fun a o e => ?_, fun b hb => ?_, eg.trans h.gens, eo.trans h.os, fun b hb => ?_, h.loWn, h.cellsIn⟩, fun b hb => ?_⟩
  · obtain ⟨_, o, ho⟩ := h.own _ h.loWn; exact sm _ _ ho
  · rcases h.cellsIn x c hc with q | q
    · obtain ⟨_, o, ho⟩ := h.own _ q; exact sm _ _ ho
    · obtain ⟨⟨o, ho⟩, _⟩ := h.fz _ q; exact sm _ _ ho
  · rcases hn a o e with e | ⟨c, hno⟩
    · obtain ⟨h1, h2, h3, h4⟩ := h.sto a o e
      obtain ⟨ob, hob⟩ := h1.some
      exact ⟨h1.same (sm _ _ hob), h2, h3, h4⟩
    · refine ⟨c, ?_, fun q => ?_, fun q => ?_⟩
      · cases z : C.top.get? a with
        | none => rfl
        | some ob => rw [h.keep _ _ z] at hno; cases hno
      · obtain ⟨⟨o, ho⟩, _⟩ := h.fz _ q; rw [ho] at hno; cases hno
      · obtain ⟨_, o, ho⟩ := h.own _ q; rw [ho] at hno; cases hno
  · obtain ⟨⟨o, ho⟩, hn'⟩ := h.fz b hb; exact ⟨⟨o, hk _ _ ho⟩, hn'⟩
  · obtain ⟨ht, o, ho⟩ := h.own b hb; exact ⟨ht, o, hk _ _ ho⟩
  · obtain ⟨⟨o, ho⟩, _⟩ := h.fz b hb; exact sm _ _ ho

theorem get?_size_none (h : Heap) : h.get? h.objs.size = none := by
  cases q : h.get? h.objs.size with
  | none => rfl
  | some o => exact absurd (Heap.lt_size q) (Nat.lt_irrefl _)

theorem upd_cases {σ : Store} {a b : Addr} {o ob : AObj} (h : upd σ a o b = some ob) : (b = a ∧ ob = o) ∨ (b ≠ a ∧ σ b = some ob) := by
  by_cases z : b = a
  · subst z; rw [upd_self] at h; exact .inl ⟨rfl, (Option.some.inj h).symm⟩
  · rw [upd_ne z] at h; exact .inr ⟨z, h⟩

theorem St.push {Fz : Addr → Prop} {s : Shared} {ob : Obj} {o : AObj} (h : St C Fz f m σ s) (tk : Nat) (hf : ob.isFreed = false) (hc : ∀ h' : Heap, h'.get? s.heap.objs.size = some ob → Conc h' s.heap.objs.size o) :
    St C Fz f m (upd σ s.heap.objs.size o) { s with heap := s.heap.push ob, toks := tk } ∧ ∀ b, Fz b → (s.heap.push ob).get? b = s.heap.get? b :=
  h.grow (s' := { s with heap := s.heap.push ob, toks := tk }) (fun b o e => Heap.get?_push_of_some _ e) (fun a o' e => by
    rcases upd_cases e with ⟨rfl, rfl⟩ | ⟨_, e⟩
    · exact .inr ⟨hc _ (Heap.get?_push_size _ hf), get?_size_none _⟩
    · exact .inl e) rfl rfl

theorem T_newList {ws : List Value} {Q : Value → LM → Store → Prop} (hl : ws.length ≤ 1000) (h : ∀ a, σ a = none → Q (.ref a) m (upd σ a (.list .plain (ws.map er)))) : TV C f m σ (newList ws) Q := fun _ Fz s hs => by
  refine wpAny_newObj_type ?_ (by show ws.toArray.size ≤ sizeLine; rw [List.size_toArray, sizeLine_eq]; omega)
  have q := hs.push (ob := { cls := .type "list", data := .seq ws.toArray }) (o := .list .plain (ws.map er)) s.toks rfl (fun h' e => ⟨ws.toArray, 0, e, rfl⟩)
  exact ⟨m, _, q.1, q.2, h _ (Owns.fresh hs).1⟩
theorem T_newTuple {ws : List Value} {Q : Value → LM → Store → Prop} (hl : ws.length ≤ 1000) (h : ∀ a, σ a = none → Q (.ref a) m (upd σ a (.tup (ws.map er)))) : TV C f m σ (newTuple ws) Q := fun _ Fz s hs => by
  refine wpAny_newObj_type ?_ (by show ws.toArray.size ≤ sizeLine; rw [List.size_toArray, sizeLine_eq]; omega)
  have q := hs.push (ob := { cls := .type "tuple", data := .seq ws.toArray }) (o := .tup (ws.map er)) s.toks rfl (fun h' e => ⟨ws.toArray, 0, e, rfl⟩)
  exact ⟨m, _, q.1, q.2, h _ (Owns.fresh hs).1⟩

theorem TE_List {es : List Expr} {pos : Pos} {Q : Value → LM → Store → Prop} (h : TArgs C f m σ pos es (fun vs m' σ' => vs.length ≤ 1000 ∧ ∀ a, σ' a = none → Q (.ref a) m' (upd σ' a (.list .plain vs)))) : TE C f m σ (.List es pos) Q := fun ha _ _ hs =>
  List_ (h.run ha hs fun ws m' σ' s' h1 k1 q1 => T.thn (T_newList (by simpa using q1.1) q1.2) ha h1 k1)
theorem TE_Tuple {es : List Expr} {k : Nat} {pos : Pos} {Q : Value → LM → Store → Prop} (h : TArgs C f m σ pos es (fun vs m' σ' => vs.length ≤ 1000 ∧ ∀ a, σ' a = none → Q (.ref a) m' (upd σ' a (.tup vs)))) : TE C f m σ (.Tuple es k pos) Q := fun ha _ _ hs =>
  Tuple_ (h.run ha hs fun ws m' σ' s' h1 k1 q1 => T.thn (T_newTuple (by simpa using q1.1) q1.2) ha h1 k1)
end
end Mine
end
section
open PySem PySem.W PySem.Calls PyProof.Rows
namespace Mine
section
variable {prog : Program} {K : Params → Frag} {n : Nat} {ns : List (Str × NameKind)}
variable {C : Cx prog K} {f : Fx n ns} {m : LM} {σ : Store}

inductive SK where
  | lst (a : Addr)
  | tpl (a : Addr)
  | rng (a : Addr) (lo hi st : Int)
noncomputable def SK.val : SK → Value
  | .lst a => .ref a
  | .tpl a => .ref a
  | .rng a _ _ _ => .ref a
noncomputable def rangeItems (lo hi st : Int) : List Value := (List.range (Builtin.Range.rangeSize lo hi st).toNat).map fun (i : Nat) => I (lo + (i : Int) * st)
noncomputable def SK.holds (σ : Store) (items : List Value) : SK → Prop
  | .lst a => ∃ r, σ a = some (.list r items)
  | .tpl a => σ a = some (.tup items)
  | .rng a lo hi st => σ a = some (.rng lo hi st) ∧ Builtin.Range.small lo hi st = true ∧ items = rangeItems lo hi st
noncomputable def SK.at (h : Heap) (It : Addr) (i : Nat) : SK → Prop
  | .lst a => h.IsListIter It a i
  | .tpl a => h.IsTupleIter It a i
  | .rng _ lo hi st => IsRangeIter h It (lo + (i : Int) * st) (((Builtin.Range.rangeSize lo hi st).toNat : Int) - (i : Int)) st

theorem SK.at.same {k : SK} {h h' : Heap} {It : Addr} {i : Nat} (x : k.at h It i) (e : h'.get? It = h.get? It) : k.at h' It i := by
  cases k
  · obtain ⟨o, ho, r⟩ := x; exact ⟨o, e.trans ho, r⟩
  · obtain ⟨o, ho, r⟩ := x; exact ⟨o, e.trans ho, r⟩
  · exact e.trans x
theorem SK.at.ex {k : SK} {h : Heap} {It : Addr} {i : Nat} (x : k.at h It i) : ∃ o, h.get? It = some o := by
  cases k
  · obtain ⟨o, ho, r⟩ := x; exact ⟨o, ho⟩
  · obtain ⟨o, ho, r⟩ := x; exact ⟨o, ho⟩
  · exact ⟨_, x⟩

theorem SK.isList {a : Addr} {r : Role} {items : List Value} {Fz : Addr → Prop} {s : Shared} (h : St C Fz f m σ s) (e : σ a = some (.list r items)) : ∃ ws : Array Value, s.heap.IsList a ws ∧ ws.toList.map er = items := by
  obtain ⟨⟨ws, n', hg, hw⟩, _⟩ := h.sto _ _ e
  exact ⟨ws, ⟨_, hg, rfl, _, rfl⟩, hw⟩
theorem SK.isTup {a : Addr} {items : List Value} {Fz : Addr → Prop} {s : Shared} (h : St C Fz f m σ s) (e : σ a = some (.tup items)) : ∃ ws : Array Value, s.heap.IsTuple a ws ∧ ws.toList.map er = items := by
  obtain ⟨⟨ws, n', hg, hw⟩, _⟩ := h.sto _ _ e
  exact ⟨ws, ⟨_, hg, rfl, _, rfl⟩, hw⟩

theorem SK.iter {k : SK} {items : List Value} {Fz : Addr → Prop} {s : Shared} {A : Around} {E : Value → Shared → Prop} {Q : Value → Shared → Prop} (h : St C Fz f m σ s) (hk : k.holds σ items)
    (hQ : ∀ ob : Obj, ob.isFreed = false → k.at (s.heap.push ob) s.heap.objs.size 0 → Q (.ref s.heap.objs.size) { s with heap := s.heap.push ob }) : wpAny (model prog C.w) A (pyIter k.val) Q E s := by
  cases k with
  | lst a =>
    obtain ⟨r, e⟩ := hk
    obtain ⟨ws, il, _⟩ := SK.isList h e
    exact wpAny_pyIter_list il (hQ _ rfl ⟨_, Heap.get?_push_size _ rfl, rfl, rfl⟩)
  | tpl a =>
    obtain ⟨ws, il, _⟩ := SK.isTup h hk
    exact wpAny_pyIter_tuple il (hQ _ rfl ⟨_, Heap.get?_push_size _ rfl, rfl, rfl⟩)
  | rng a lo hi st =>
    obtain ⟨e, hs, _⟩ := hk
    obtain ⟨⟨t, u, v, hr⟩, _⟩ := h.sto _ _ e
    refine wpAny_pyIter_range hr hs (hQ _ rfl ?_)
    have := Heap.get?_push_size s.heap (o := { cls := .type "range_iterator", data := .fields #[rawInt lo, rawInt (Builtin.Range.rangeSize lo hi st), rawInt st] }) rfl
    show IsRangeIter _ _ (lo + ((0 : Nat) : Int) * st) (((Builtin.Range.rangeSize lo hi st).toNat : Int) - ((0 : Nat) : Int)) st
    have h0 := rangeSize_toNat lo hi st
    rw [show lo + ((0 : Nat) : Int) * st = lo by simp, show (((Builtin.Range.rangeSize lo hi st).toNat : Int) - ((0 : Nat) : Int)) = Builtin.Range.rangeSize lo hi st by omega]
    exact this

theorem SK.next {k : SK} {items : List Value} {Fz : Addr → Prop} {s : Shared} {A : Around} {E : Value → Shared → Prop} {Q : Option Value → Shared → Prop} {It : Addr} {i : Nat} {v : Value} (h : St C Fz f m σ s) (hk : k.holds σ items) (hi : k.at s.heap It i) (hv : items[i]? = some v)
    (hQ : ∀ u h' tk, er u = v → k.at h' It (i + 1) → (∀ b, b ≠ It → h'.get? b = s.heap.get? b) → Q (some u) { s with heap := h', toks := tk }) : wpAny (model prog C.w) A (pyNext (.ref It)) Q E s := by
  have get : ∀ {ws : Array Value}, ws.toList.map er = items → ∃ u, ws[i]? = some u ∧ er u = v := fun {ws} e => by
    rw [← e, List.getElem?_map, Array.getElem?_toList] at hv
    cases q : ws[i]? with
    | none => rw [q] at hv; cases hv
    | some u => rw [q] at hv; exact ⟨u, rfl, Option.some.inj hv⟩
  cases k with
  | lst a =>
    obtain ⟨r, e⟩ := hk
    obtain ⟨ws, il, hw⟩ := SK.isList h e
    obtain ⟨u, hu, hu'⟩ := get hw
    exact wpAny_pyNext_list_item hi il hu fun h' hi' hs' => hQ u h' s.toks hu' hi' hs'.2
  | tpl a =>
    obtain ⟨ws, il, hw⟩ := SK.isTup h hk
    obtain ⟨u, hu, hu'⟩ := get hw
    exact wpAny_pyNext_tuple_item hi il hu fun h' hi' hs' => hQ u h' s.toks hu' hi' hs'.2
  | rng a lo hi' st =>
    obtain ⟨_, _, he⟩ := hk
    have hlen : i < (Builtin.Range.rangeSize lo hi' st).toNat := by
      have := (List.getElem?_eq_some_iff.mp hv).1
      rw [he] at this; simpa [rangeItems] using this
    have hval : v = I (lo + (i : Int) * st) := by
      rw [he, rangeItems, List.getElem?_map, List.getElem?_range hlen] at hv
      exact (Option.some.inj hv).symm
    refine wpAny_pyNext_range_item hi (by omega) fun h' hit' hs' => hQ _ h' _ ?_ ?_ hs'.2
    · rw [hval]; rfl
    · show IsRangeIter _ _ (lo + ((i + 1 : Nat) : Int) * st) _ st
      have e1 : lo + ((i + 1 : Nat) : Int) * st = lo + (i : Int) * st + st := by push_cast; rw [Int.add_mul, Int.one_mul, Int.add_assoc]
      have e2 : ((Builtin.Range.rangeSize lo hi' st).toNat : Int) - ((i + 1 : Nat) : Int) = ((Builtin.Range.rangeSize lo hi' st).toNat : Int) - (i : Int) - 1 := by push_cast; omega
      rw [e1, e2]; exact hit'

theorem SK.last {k : SK} {items : List Value} {Fz : Addr → Prop} {s : Shared} {A : Around} {E : Value → Shared → Prop} {Q : Option Value → Shared → Prop} {It : Addr} {i : Nat} (hA : A.handled = none) (h : St C Fz f m σ s) (hk : k.holds σ items) (hi : k.at s.heap It i) (he : i = items.length)
    (hQ : ∀ h', (∀ b o, b ≠ It → s.heap.get? b = some o → h'.get? b = some o) → Q none { s with heap := h' }) : wpAny (model prog C.w) A (pyNext (.ref It)) Q E s := by
  have get : ∀ {ws : Array Value}, ws.toList.map er = items → ws[i]? = none := fun {ws} e => by
    apply Array.getElem?_eq_none
    have : ws.size = items.length := by rw [← e]; simp
    omega
  cases k with
  | lst a =>
    obtain ⟨r, e⟩ := hk
    obtain ⟨ws, il, hw⟩ := SK.isList h e
    exact wpAny_pyNext_list_end hA hi il (get hw) fun h' e' => hQ h' e'
  | tpl a =>
    obtain ⟨ws, il, hw⟩ := SK.isTup h hk
    exact wpAny_pyNext_tuple_end hA hi il (get hw) fun h' e' => hQ h' e'
  | rng a lo hi' st =>
    obtain ⟨_, _, hit⟩ := hk
    have : items.length = (Builtin.Range.rangeSize lo hi' st).toNat := by rw [hit]; simp [rangeItems]
    exact wpAny_pyNext_range_end hA hi (by omega) fun h' e' => hQ h' e'

theorem St.thaw {Fz Fz' : Addr → Prop} {s : Shared} (h : St C Fz' f m σ s) (hf : ∀ b, Fz b → Fz' b) (hc : ∀ x c, f.env.cells.lookup x = some c → c ∈ f.own ∨ Fz c) : St C Fz f m σ s :=
  ⟨h.keep, h.above, h.loc, fun a o e => let ⟨h1, h2, h3, h4⟩ := h.sto a o e; ⟨h1, h2, fun q => h3 (hf _ q), h4⟩, fun b hb => h.fz b (hf _ hb), h.gens, h.os, h.own, h.loWn, hc⟩
theorem St.touch {Fz Fz' : Addr → Prop} {s s' : Shared} {It : Addr} (h : St C Fz' f m σ s) (hI : Fz' It) (hT : C.top.get? It = none) (hk : ∀ b o, b ≠ It → s.heap.get? b = some o → s'.heap.get? b = some o) (hf : ∀ b, Fz b → Fz' b ∧ (b = It → ∃ o, s'.heap.get? b = some o))
    (hc : ∀ x c, f.env.cells.lookup x = some c → c ≠ It ∧ (c ∈ f.own ∨ Fz c)) (eg : s'.gens = s.gens) (eo : s'.os = s.os) : St C Fz f m σ s' := by
  have sm : ∀ b o, b ≠ It → s.heap.get? b = some o → s'.heap.get? b = s.heap.get? b := fun b o hb e => (hk b o hb e).trans e.symm
  have hIo : It ∉ f.own := (h.fz It hI).2
  have neO : ∀ b, b ∈ f.own → b ≠ It := fun b hb e => hIo (e ▸ hb)
  refine ⟨fun b o e => ?_, h.above, h.loc.same ?_ fun x c hx => ?_, fun a o e => ?_, fun b hb => ?_, eg.trans h.gens, eo.trans h.os, fun b hb => ?_, h.loWn, fun x c hx => (hc x c hx).2⟩
  · refine hk b o (fun z => ?_) (h.keep b o e)
    subst z; rw [hT] at e; cases e
  · obtain ⟨_, o, ho⟩ := h.own _ h.loWn
    exact sm _ o (neO _ h.loWn) ho
  · obtain ⟨hne, hx'⟩ := hc x c hx
    rcases h.cellsIn x c hx with q | q
    · obtain ⟨_, o, ho⟩ := h.own _ q; exact sm _ o hne ho
    · obtain ⟨⟨o, ho⟩, _⟩ := h.fz _ q; exact sm _ o hne ho
  · obtain ⟨h1, h2, h3, h4⟩ := h.sto a o e
    obtain ⟨ob, hob⟩ := h1.some
    exact ⟨h1.same (sm a ob (fun z => h3 (z ▸ hI)) hob), h2, fun q => h3 (hf _ q).1, h4⟩
  · obtain ⟨hb', hb''⟩ := hf b hb
    obtain ⟨⟨o, ho⟩, hn⟩ := h.fz b hb'
    by_cases z : b = It
    · exact ⟨hb'' z, hn⟩
    · exact ⟨⟨o, hk b o z ho⟩, hn⟩
  · obtain ⟨ht, o, ho⟩ := h.own b hb
    exact ⟨ht, o, hk b o (neO b hb) ho⟩

theorem TX_For {x : Str} {px pos : Pos} {iter : Expr} {body : List Stmt} {Q : Flow → LM → Store → Prop}
    (h : TE C f m σ iter (fun v m₁ σ₁ => ∃ (k : SK) (items : List Value) (Inv : Nat → LM → Store → Prop), v = k.val ∧ Inv 0 m₁ σ₁ ∧ (∀ i m₂ σ₂, Inv i m₂ σ₂ → k.holds σ₂ items) ∧
      (∀ i v m₂ σ₂, items[i]? = some v → Inv i m₂ σ₂ → TX C f ((x, v) :: m₂) σ₂ (execs body f.env) (fun fl m₃ σ₃ => match fl with
        | .next | .cont => Inv (i + 1) m₃ σ₃
        | .brk => Q .next m₃ σ₃
        | .ret r => Q (.ret r) m₃ σ₃)) ∧
      (∀ m₂ σ₂, Inv items.length m₂ σ₂ → Q .next m₂ σ₂)))
    (hl : Stor C f x := by first | exact Stor_local (by rfl) | exact Stor_cell (by assumption) (by rfl)) (hs : ∀ x, foldedSetIterable iter f.env x = pure x := by intro _; rfl) :
    TX C f m σ (exec (.For (.Name x px) iter body [] pos) f.env) Q := fun ha Fz s hst => by
  refine wpAny_For (h.run ha hst fun v m₁ σ₁ s₁ h1 k1 q1 => ?_) hs
  obtain ⟨k, items, Inv, e, h0, hkeep, hturn, hend⟩ := q1
  have e' : v = k.val := by cases k <;> exact er_ref e
  subst e'
  refine SK.iter h1 (hkeep 0 m₁ σ₁ h0) fun ob hfo hat => ?_
  generalize hIt : s₁.heap.objs.size = It at *
  have hfr := Owns.fresh h1
  rw [hIt] at hfr
  have hg := h1.grow (s' := { s₁ with heap := s₁.heap.push ob }) (σ' := σ₁) (fun b o e => Heap.get?_push_of_some _ e) (fun a o e => .inl e) rfl rfl
  have hne : ∀ b, Fz b → b ≠ It := fun b hb z => hfr.2.1 (z ▸ hb)
  have hTop : C.top.get? It = none := by
    cases z : C.top.get? It with
    | none => rfl
    | some o => exact absurd (Heap.lt_size (h1.keep _ _ z)) (by rw [hIt]; exact Nat.lt_irrefl _)
  have hst1 : St C (fun b => Fz b ∨ b = It) f m₁ σ₁ { s₁ with heap := s₁.heap.push ob } := by
    have q := hg.1
    refine ⟨q.keep, q.above, q.loc, fun a o e => ?_, fun b hb => ?_, q.gens, q.os, q.own, q.loWn, fun x c hc => ?_⟩
    · obtain ⟨c1, c2, c3, c4⟩ := q.sto a o e
      exact ⟨c1, c2, fun z => z.elim c3 fun z => (by subst z; rw [hfr.1] at e; cases e), c4⟩
    · rcases hb with hb | rfl
      · exact q.fz b hb
      · exact ⟨hat.ex, hfr.2.2⟩
    · exact (q.cellsIn x c hc).imp id .inl
  have hcells : ∀ x c, f.env.cells.lookup x = some c → c ≠ It ∧ (c ∈ f.own ∨ Fz c) := fun x c hc => by
    refine ⟨fun z => ?_, h1.cellsIn x c hc⟩
    rcases h1.cellsIn x c hc with q | q
    · exact hfr.2.2 (z ▸ q)
    · exact hfr.2.1 (z ▸ q)
  refine codeAny_forLoop (R := fun r s' => match r with | .ok fl => ∃ m' σ', St C Fz f m' σ' s' ∧ (∀ b, Fz b → s'.heap.get? b = s.heap.get? b) ∧ Q (erF fl) m' σ' | .error e => cameBackBy (model prog C.w) f.A f.env (fun _ _ => False) e s')
    (fun N s' => ∃ i m₂ σ₂, N = items.length + 1 - i ∧ i ≤ items.length ∧ Inv i m₂ σ₂ ∧ St C (fun b => Fz b ∨ b = It) f m₂ σ₂ s' ∧ k.at s'.heap It i ∧ ∀ b, Fz b → s'.heap.get? b = s.heap.get? b) ?_ (items.length + 1)
    ⟨0, m₁, σ₁, rfl, Nat.zero_le _, h0, hst1, hat, fun b hb => (hg.2 b hb).trans (k1 b hb)⟩
  rintro N s' ⟨i, m₂, σ₂, rfl, hi, hinv, h2, hat2, k2⟩
  have hno : ∀ {α : Type} {t : Sem α} {P : α → Shared → Prop} {s'' : Shared} {E' : Value → Shared → Prop}, wpAny (model prog C.w) f.A t P (fun _ _ => False) s'' → wpAny (model prog C.w) f.A t P E' s'' := fun hw => wpAny_mono hw (fun _ _ x => x) fun _ _ x => x.elim
  by_cases hlt : i < items.length
  · refine hno (SK.next (v := items[i]) h2 (hkeep i m₂ σ₂ hinv) hat2 (by simp [hlt]) fun u h' tk hu hat' hsame => ?_)
    have h3 : St C (fun b => Fz b ∨ b = It) f m₂ σ₂ { s' with heap := h', toks := tk } :=
      h2.touch (.inr rfl) hTop (fun b o hb e => (hsame b hb).trans e) (fun b hb => ⟨hb, fun z => z ▸ hat'.ex⟩) (fun x c hc => ⟨(hcells x c hc).1, (hcells x c hc).2.imp id .inl⟩) rfl rfl
    refine hno (wpAny_assign_Name (T.run (hl u m₂ σ₂ (fun _ m' σ' => m' = (x, er u) :: m₂ ∧ σ' = σ₂) ⟨rfl, rfl⟩) ha h3 fun _ m₄ σ₄ s₄ h4 k4 q4 => ?_))
    obtain ⟨rfl, rfl⟩ := q4
    rw [hu] at h4
    refine hno (T.run (hturn i items[i] m₂ σ₄ (by simp [hlt]) hinv) ha h4 fun fl m₅ σ₅ s₅ h5 k5 q5 => ?_)
    have hk5 : ∀ b, Fz b → s₅.heap.get? b = s.heap.get? b := fun b hb => ((k5 b (.inl hb)).trans (k4 b (.inl hb))).trans ((hsame b (hne b hb)).trans (k2 b hb))
    have hat5 : k.at s₅.heap It (i + 1) := hat'.same ((k5 It (.inr rfl)).trans (k4 It (.inr rfl)))
    have h5' : St C Fz f m₅ σ₅ s₅ := h5.thaw (fun b hb => .inl hb) fun x c hc => (hcells x c hc).2
    cases fl with
    | next => exact ⟨items.length + 1 - (i + 1), by omega, i + 1, m₅, σ₅, rfl, hlt, q5, h5, hat5, hk5⟩
    | cont => exact ⟨items.length + 1 - (i + 1), by omega, i + 1, m₅, σ₅, rfl, hlt, q5, h5, hat5, hk5⟩
    | brk => exact ⟨m₅, σ₅, h5', hk5, q5⟩
    | ret r => exact ⟨m₅, σ₅, h5', hk5, q5⟩
  · have hi' : i = items.length := by omega
    refine hno (SK.last ha.2.2 h2 (hkeep i m₂ σ₂ hinv) hat2 hi' fun h' hk' => ?_)
    refine wpAny_execs_nil ⟨m₂, σ₂, ?_, fun b hb => ?_, hend m₂ σ₂ (hi' ▸ hinv)⟩
    · exact h2.touch (.inr rfl) hTop hk' (fun b hb => ⟨.inl hb, fun z => absurd z (hne b hb)⟩) hcells rfl rfl
    · obtain ⟨⟨o, ho⟩, _⟩ := h2.fz b (.inl hb)
      exact ((hk' b o (hne b hb) ho).trans ho.symm).trans (k2 b hb)
end
end Mine
end
section
open PySem PySem.W PySem.Calls PyProof.Rows
namespace Mine
section
variable {prog : Program} {K : Params → Frag} {n : Nat} {ns : List (Str × NameKind)}
variable {C : Cx prog K} {f : Fx n ns} {m : LM} {σ : Store}

inductive Rd (top : Heap) (σ : Store) : Value → PyData → Prop
  | none : Rd top σ .none .none
  | bool (b) : Rd top σ (.bool b) (.bool b)
  | int (i) : Rd top σ (I i) (.int i)
  | str (x) : Rd top σ (S x) (.str x)
  | list {a r} {vs : List Value} {ds : List PyData} : σ a = some (.list r vs) → vs.length = ds.length → (∀ (i : Nat) v d, vs[i]? = some v → ds[i]? = some d → Rd top σ v d) → Rd top σ (.ref a) (.list ds)
  | tup {a} {vs : List Value} {ds : List PyData} : σ a = some (.tup vs) → vs.length = ds.length → (∀ (i : Nat) v d, vs[i]? = some v → ds[i]? = some d → Rd top σ v d) → Rd top σ (.ref a) (.tuple ds)
  | top {a d as} : Reads top (.ref a) d as → Rd top σ (.ref a) d

theorem readsAll_of {h : Heap} : ∀ {ws : List Value} {ds : List PyData}, ws.length = ds.length → (∀ (i : Nat) w d, ws[i]? = some w → ds[i]? = some d → ∃ as, Reads h w d as) → ∃ as, ReadsAll h ws ds as
  | [], [], _, _ => ⟨[], .nil⟩
  | w :: ws, d :: ds, hl, h => by
    obtain ⟨as, ha⟩ := h 0 w d rfl rfl
    obtain ⟨bs, hb⟩ := readsAll_of (ws := ws) (ds := ds) (by simpa using hl) fun i w' d' h1 h2 => h (i + 1) w' d' h1 h2
    exact ⟨_, .cons ha hb⟩

theorem Rd.reads {Fz : Addr → Prop} {s : Shared} (hs : St C Fz f m σ s) {v : Value} {d : PyData} (h : Rd C.top σ v d) : ∀ u, er u = v → ∃ as, Reads s.heap u d as := by
  induction h with
  | none => intro u hu; rw [er_none hu]; exact ⟨_, .none⟩
  | bool b => intro u hu; rw [er_bool hu]; exact ⟨_, .bool b⟩
  | int i => intro u hu; obtain ⟨t, rfl⟩ := er_int hu; exact ⟨_, .int i t⟩
  | str x => intro u hu; obtain ⟨t, rfl⟩ := er_str hu; exact ⟨_, .str x t⟩
  | @list a r vs ds e hl _ ih =>
    intro u hu
    rw [er_ref hu]
    obtain ⟨⟨ws, n', hg, hw⟩, _⟩ := hs.sto _ _ e
    obtain ⟨as, ha⟩ := readsAll_of (h := s.heap) (ws := ws.toList) (ds := ds) (by rw [← hl, ← hw]; simp) fun i w d h1 h2 => ih i (er w) d (by rw [← hw, List.getElem?_map, h1]; rfl) h2 w rfl
    exact ⟨_, .list hg rfl rfl ha⟩
  | @tup a vs ds e hl _ ih =>
    intro u hu
    rw [er_ref hu]
    obtain ⟨⟨ws, n', hg, hw⟩, _⟩ := hs.sto _ _ e
    obtain ⟨as, ha⟩ := readsAll_of (h := s.heap) (ws := ws.toList) (ds := ds) (by rw [← hl, ← hw]; simp) fun i w d h1 h2 => ih i (er w) d (by rw [← hw, List.getElem?_map, h1]; rfl) h2 w rfl
    exact ⟨_, .tuple hg rfl rfl ha⟩
  | top hr => intro u hu; rw [er_ref hu]; exact ⟨_, PyProof.Rows.Reads.keeps hs.keep hr⟩

theorem TE_Compare {l r : Expr} {op : CmpOp} {pos : Pos} {Q : Value → LM → Store → Prop} (h : TE C f m σ l (fun a m₁ σ₁ => TE C f m₁ σ₁ r (fun b m₂ σ₂ => Op2 C f m₂ σ₂ (compareOp op) a b Q)))
    (hm : behindInMarks op r = false := by with_unfolding_all rfl) : TE C f m σ (.Compare l [op] [r] pos) Q := fun ha _ _ hs =>
  wpAny_Compare1 (h.run ha hs fun _ _ _ _ h1 k1 q1 => q1.run ha h1 fun _ _ _ _ h2 k2 q2 => (q2 _ _ rfl rfl).thn ha h2 fun b hb => (k2 b hb).trans (k1 b hb)) hm
theorem TB_Compare {l r : Expr} {op : CmpOp} {pos : Pos} {Q : Bool → LM → Store → Prop} (h : TE C f m σ l (fun a m₁ σ₁ => TE C f m₁ σ₁ r (fun b m₂ σ₂ => Op2 C f m₂ σ₂ (compareOp op) a b (fun v m₃ σ₃ => ∃ b, v = .bool b ∧ Q b m₃ σ₃))))
    (hm : behindInMarks op r = false := by with_unfolding_all rfl) : TB C f m σ (.Compare l [op] [r] pos) Q := fun ha _ _ hs =>
  wpAny_isTrue_Compare1 (h.run ha hs fun _ _ _ _ h1 k1 q1 => q1.run ha h1 fun _ _ _ _ h2 k2 q2 => (q2 _ _ rfl rfl).run ha h2 fun v m₃ σ₃ s₃ h3 k3 q3 => by
    obtain ⟨b, e, q3⟩ := q3
    rw [er_bool e]
    exact wpAny_truthy_bool ⟨m₃, σ₃, h3, fun b hb => ((k3 b hb).trans (k2 b hb)).trans (k1 b hb), q3⟩) hm
theorem TB_plain {e : Expr} {Q : Bool → LM → Store → Prop} (h : TE C f m σ e (fun v m₁ σ₁ => ∃ b, v = .bool b ∧ Q b m₁ σ₁))
    (he : isTrue e f.env (eval e f.env) = (do let v ← eval e f.env; standAt e.pos; holding [v] (truthy v)) := by rfl) : TB C f m σ e Q := fun ha _ _ hs =>
  isTrue_plain (h.run ha hs fun v m₁ σ₁ s₁ h1 k1 q1 => by
    obtain ⟨b, e, q1⟩ := q1
    rw [er_bool e]
    exact wpAny_truthy_bool ⟨m₁, σ₁, h1, k1, q1⟩) he
theorem TB_not {x : Expr} {pos : Pos} {Q : Bool → LM → Store → Prop} (h : TB C f m σ x (fun b => Q (!b))) : TB C f m σ (.UnaryOp .Not x pos) Q := fun ha Fz s hs =>
  isTrue_not (h ha Fz s hs)
theorem TB_and_nil {pos : Pos} {w : Sem Value} {Q : Bool → LM → Store → Prop} (h : Q true m σ) : T C f m σ (isTrue (.BoolOp .And [] pos) f.env w) Q := fun _ _ _ hs => isTrue_and_nil ⟨m, σ, hs, fun _ _ => rfl, h⟩
theorem TB_or_nil {pos : Pos} {w : Sem Value} {Q : Bool → LM → Store → Prop} (h : Q false m σ) : T C f m σ (isTrue (.BoolOp .Or [] pos) f.env w) Q := fun _ _ _ hs => isTrue_or_nil ⟨m, σ, hs, fun _ _ => rfl, h⟩
theorem TB_and {x : Expr} {rest : List Expr} {pos : Pos} {w : Sem Value} {Q : Bool → LM → Store → Prop} (h : TB C f m σ x (fun b m₁ σ₁ => if b = true then T C f m₁ σ₁ (isTrue (.BoolOp .And rest pos) f.env w) Q else Q false m₁ σ₁)) :
    T C f m σ (isTrue (.BoolOp .And (x :: rest) pos) f.env w) Q := fun ha _ _ hs => isTrue_and (h.run ha hs fun b m₁ σ₁ s₁ h1 k1 q1 => by
      cases b
      · exact ⟨m₁, σ₁, h1, k1, q1⟩
      · exact T.thn q1 ha h1 k1)
theorem TB_or {x : Expr} {rest : List Expr} {pos : Pos} {w : Sem Value} {Q : Bool → LM → Store → Prop} (h : TB C f m σ x (fun b m₁ σ₁ => if b = true then Q true m₁ σ₁ else T C f m₁ σ₁ (isTrue (.BoolOp .Or rest pos) f.env w) Q)) :
    T C f m σ (isTrue (.BoolOp .Or (x :: rest) pos) f.env w) Q := fun ha _ _ hs => isTrue_or (h.run ha hs fun b m₁ σ₁ s₁ h1 k1 q1 => by
      cases b
      · exact T.thn q1 ha h1 k1
      · exact ⟨m₁, σ₁, h1, k1, q1⟩)
theorem TE_BoolOne {op : BoolOp} {e : Expr} {pos : Pos} {Q : Value → LM → Store → Prop} (h : TE C f m σ e Q) : TE C f m σ (.BoolOp op [e] pos) Q := h
theorem TE_BoolAnd {e₁ e₂ : Expr} {rest : List Expr} {pos : Pos} {Q : Value → LM → Store → Prop} (h : TE C f m σ e₁ (fun v m₁ σ₁ => ∃ b, v = .bool b ∧ if b = true then TE C f m₁ σ₁ (.BoolOp .And (e₂ :: rest) pos) Q else Q (.bool false) m₁ σ₁)) :
    TE C f m σ (.BoolOp .And (e₁ :: e₂ :: rest) pos) Q := fun ha _ _ hs => BoolOp_and (h.run ha hs fun v m₁ σ₁ s₁ h1 k1 q1 => by
      obtain ⟨b, e, q1⟩ := q1
      rw [er_bool e]
      cases b
      · exact wpAny_truthy_bool ⟨m₁, σ₁, h1, k1, q1⟩
      · exact wpAny_truthy_bool (T.thn q1 ha h1 k1))
theorem TE_BoolOr {e₁ e₂ : Expr} {rest : List Expr} {pos : Pos} {Q : Value → LM → Store → Prop} (h : TE C f m σ e₁ (fun v m₁ σ₁ => ∃ b, v = .bool b ∧ if b = true then Q (.bool true) m₁ σ₁ else TE C f m₁ σ₁ (.BoolOp .Or (e₂ :: rest) pos) Q)) :
    TE C f m σ (.BoolOp .Or (e₁ :: e₂ :: rest) pos) Q := fun ha _ _ hs => BoolOp_or (h.run ha hs fun v m₁ σ₁ s₁ h1 k1 q1 => by
      obtain ⟨b, e, q1⟩ := q1
      rw [er_bool e]
      cases b
      · exact wpAny_truthy_bool (T.thn q1 ha h1 k1)
      · exact wpAny_truthy_bool ⟨m₁, σ₁, h1, k1, q1⟩)
theorem TE_IfExp {test a b : Expr} {pos : Pos} {Q : Value → LM → Store → Prop} (h : TB C f m σ test (fun c m₁ σ₁ => if c = true then TE C f m₁ σ₁ a Q else TE C f m₁ σ₁ b Q)) : TE C f m σ (.IfExp test a b pos) Q := fun ha _ _ hs =>
  IfExp_ (h.run ha hs fun c m₁ σ₁ s₁ h1 k1 q1 => by
    cases c
    · exact T.thn q1 ha h1 k1
    · exact T.thn q1 ha h1 k1)
theorem TE_Neg {x : Expr} {pos : Pos} {Q : Value → LM → Store → Prop} (h : TE C f m σ x (fun v m₁ σ₁ => ∃ i, v = I i ∧ Q (I (-i)) m₁ σ₁)) : TE C f m σ (.UnaryOp .USub x pos) Q := fun ha _ _ hs =>
  UnaryOp_ (h.run ha hs fun v m₁ σ₁ s₁ h1 k1 q1 => by
    obtain ⟨i, e, q1⟩ := q1
    obtain ⟨t, rfl⟩ := er_int e
    exact P.neg_int ⟨m₁, σ₁, h1.toks rfl rfl rfl, k1, q1⟩)
theorem TE_Not {x : Expr} {pos : Pos} {Q : Value → LM → Store → Prop} (h : TE C f m σ x (fun v m₁ σ₁ => ∃ b, v = .bool b ∧ Q (.bool (!b)) m₁ σ₁)) : TE C f m σ (.UnaryOp .Not x pos) Q := fun ha _ _ hs =>
  UnaryOp_ (h.run ha hs fun v m₁ σ₁ s₁ h1 k1 q1 => by
    obtain ⟨b, e, q1⟩ := q1
    rw [er_bool e]
    exact not_of (wpAny_truthy_bool ⟨m₁, σ₁, h1, k1, q1⟩))

section
variable {i j : Int} {x y : Str} {Q : Value → LM → Store → Prop}
theorem Op2_lt (h : Q (.bool (decide (i < j))) m σ) : Op2 C f m σ (compareOp .Lt) (I i) (I j) Q := fun u v hu hv => by
  obtain ⟨_, rfl⟩ := er_int hu; obtain ⟨_, rfl⟩ := er_int hv
  exact fun _ _ _ hs => P.lt_int ⟨m, σ, hs, fun _ _ => rfl, h⟩
theorem Op2_gt (h : Q (.bool (decide (j < i))) m σ) : Op2 C f m σ (compareOp .Gt) (I i) (I j) Q := fun u v hu hv => by
  obtain ⟨_, rfl⟩ := er_int hu; obtain ⟨_, rfl⟩ := er_int hv
  exact fun _ _ _ hs => P.gt_int ⟨m, σ, hs, fun _ _ => rfl, h⟩
theorem Op2_ge (h : Q (.bool (decide (j ≤ i))) m σ) : Op2 C f m σ (compareOp .GtE) (I i) (I j) Q := fun u v hu hv => by
  obtain ⟨_, rfl⟩ := er_int hu; obtain ⟨_, rfl⟩ := er_int hv
  exact fun _ _ _ hs => P.ge_int ⟨m, σ, hs, fun _ _ => rfl, h⟩
theorem Op2_eqi (h : Q (.bool (decide (i = j))) m σ) : Op2 C f m σ (compareOp .Eq) (I i) (I j) Q := fun u v hu hv => by
  obtain ⟨_, rfl⟩ := er_int hu; obtain ⟨_, rfl⟩ := er_int hv
  exact fun _ _ _ hs => P.eq_int ⟨m, σ, hs, fun _ _ => rfl, by rw [show (i == j) = decide (i = j) from rfl]; exact h⟩
theorem Op2_nei (h : Q (.bool (!decide (i = j))) m σ) : Op2 C f m σ (compareOp .NotEq) (I i) (I j) Q := fun u v hu hv => by
  obtain ⟨_, rfl⟩ := er_int hu; obtain ⟨_, rfl⟩ := er_int hv
  exact fun _ _ _ hs => P.ne_int ⟨m, σ, hs, fun _ _ => rfl, by rw [show (i != j) = !decide (i = j) from rfl]; exact h⟩
theorem Op2_eqs (h : Q (.bool (x == y)) m σ) : Op2 C f m σ (compareOp .Eq) (S x) (S y) Q := fun u v hu hv => by
  obtain ⟨_, rfl⟩ := er_str hu; obtain ⟨_, rfl⟩ := er_str hv
  exact fun _ _ _ hs => PyProof.Rows.eq_str ⟨m, σ, hs, fun _ _ => rfl, h⟩
theorem Op2_isNone {a : Value} (h : Q (.bool (a == .none)) m σ) (hb : ∀ id, a ≠ .builtin id) : Op2 C f m σ (compareOp .Is) a .none Q := fun u v hu hv => by
  have hv := er_none hv; subst hv
  have e : (u == Value.none) = (a == Value.none) := by subst hu; cases u <;> rfl
  refine fun _ _ _ hs => wpAny_is_plain ?_ ⟨m, σ, hs, fun _ _ => rfl, by rw [e]; exact h⟩
  cases u <;> first | rfl | exact absurd hu.symm (hb _)
theorem Op2_in_str (h : Q (.bool (Txt.contains y x)) m σ) : Op2 C f m σ (compareOp .In) (S x) (S y) Q := fun u v hu hv => by
  obtain ⟨_, rfl⟩ := er_str hu; obtain ⟨_, rfl⟩ := er_str hv
  exact fun _ _ _ hs => P.in_str ⟨m, σ, hs, fun _ _ => rfl, h⟩

noncomputable def okData (d : PyData) : Prop := d.canLay0 = true ∧ d.depth ≤ 64
theorem okData.room {A : Around} {n : Nat} {a b : PyData} (h : okData a) (ha : AOk n A) : A.units + min a.depth b.depth < cLine := by
  have := ha.2.1; have := h.2
  have : min a.depth b.depth ≤ a.depth := Nat.min_le_left _ _
  unfold cLine; omega
theorem Op2_eqd {a b : Value} {da db : PyData} (ra : Rd C.top σ a da) (rb : Rd C.top σ b db) (ha : okData da) (hb : okData db) (h : Q (.bool (PyData.eqv da db)) m σ) : Op2 C f m σ (compareOp .Eq) a b Q := fun u v hu hv hA _ _ hs => by
  obtain ⟨_, r1⟩ := ra.reads hs u hu
  obtain ⟨_, r2⟩ := rb.reads hs v hv
  exact SeqAt.compareEq_reads r1 r2 ha.1 hb.1 (ha.room hA) ⟨m, σ, hs, fun _ _ => rfl, h⟩
theorem Op2_ned {a b : Value} {da db : PyData} (ra : Rd C.top σ a da) (rb : Rd C.top σ b db) (ha : okData da) (hb : okData db) (h : Q (.bool (!PyData.eqv da db)) m σ) : Op2 C f m σ (compareOp .NotEq) a b Q := fun u v hu hv hA _ _ hs => by
  obtain ⟨_, r1⟩ := ra.reads hs u hu
  obtain ⟨_, r2⟩ := rb.reads hs v hv
  exact SeqAt.compareNe_reads r1 r2 ha.1 hb.1 (ha.room hA) ⟨m, σ, hs, fun _ _ => rfl, h⟩
theorem in_room {A : Around} {n : Nat} {xs : List PyData} {d : PyData} (h : okData d) (ha : AOk n A) : A.units + 1 + min (PyData.depthAll xs) d.depth < cLine := by
  have := ha.2.1; have := h.2
  have : min (PyData.depthAll xs) d.depth ≤ d.depth := Nat.min_le_right _ _
  unfold cLine; omega
theorem Op2_inl {a c : Value} {d : PyData} {xs : List PyData} (ra : Rd C.top σ a d) (rc : Rd C.top σ c (.list xs)) (ha : okData d) (hxs : PyData.canLayAll0 xs = true) (h : Q (.bool (xs.any fun y => PyData.eqv y d)) m σ) : Op2 C f m σ (compareOp .In) a c Q := fun u v hu hv hA _ _ hs => by
  obtain ⟨_, r1⟩ := ra.reads hs u hu
  obtain ⟨_, r2⟩ := rc.reads hs v hv
  exact SeqAt.in_list_reads r2 r1 hxs ha.1 (in_room ha hA) ⟨m, σ, hs, fun _ _ => rfl, h⟩
theorem Op2_int {a c : Value} {d : PyData} {xs : List PyData} (ra : Rd C.top σ a d) (rc : Rd C.top σ c (.tuple xs)) (ha : okData d) (hxs : PyData.canLayAll0 xs = true) (h : Q (.bool (xs.any fun y => PyData.eqv y d)) m σ) : Op2 C f m σ (compareOp .In) a c Q := fun u v hu hv hA _ _ hs => by
  obtain ⟨_, r1⟩ := ra.reads hs u hu
  obtain ⟨_, r2⟩ := rc.reads hs v hv
  exact SeqAt.in_tuple_reads r2 r1 hxs ha.1 (in_room ha hA) ⟨m, σ, hs, fun _ _ => rfl, h⟩
theorem Op2_nint {a c : Value} {d : PyData} {xs : List PyData} (ra : Rd C.top σ a d) (rc : Rd C.top σ c (.tuple xs)) (ha : okData d) (hxs : PyData.canLayAll0 xs = true) (h : Q (.bool (!xs.any fun y => PyData.eqv y d)) m σ) : Op2 C f m σ (compareOp .NotIn) a c Q := fun u v hu hv hA _ _ hs => by
  obtain ⟨_, r1⟩ := ra.reads hs u hu
  obtain ⟨_, r2⟩ := rc.reads hs v hv
  exact SeqAt.notIn_tuple_reads r2 r1 hxs ha.1 (in_room ha hA) ⟨m, σ, hs, fun _ _ => rfl, h⟩
end

theorem T_unpack {t : Addr} {vs : List Value} {N : Nat} {Q : List Value → LM → Store → Prop} (ht : σ t = some (.tup vs)) (hN : N = vs.length) (h : Q vs m σ) : T C f m σ (unpackItems (.ref t) N none) (fun ws => Q (ws.map er)) := fun ha Fz s hs => by
  obtain ⟨⟨ws, n', hg, hw⟩, _⟩ := hs.sto _ _ ht
  have hz : N = ws.size := by rw [hN, ← hw]; simp
  subst hz
  refine unpackItems_tuple ha.2.2 ⟨_, hg, rfl, _, rfl⟩ fun h' he => ?_
  have q := hs.grow (s' := { s with heap := h' }) (σ' := σ) (fun b o e => he b o (Nat.ne_of_lt (Heap.lt_size e)) e) (fun a o e => .inl e) rfl rfl
  exact ⟨m, σ, q.1, q.2, (by show Q (ws.toList.map er) m σ; rw [hw]; exact h)⟩

theorem TX_AssignTup2 {x y : Str} {px py tpos pos : Pos} {k : Nat} {value : Expr} {Q : Flow → LM → Store → Prop}
    (h : TE C f m σ value (fun v m₁ σ₁ => ∃ t a b, v = .ref t ∧ σ₁ t = some (.tup [a, b]) ∧ Q .next ((y, b) :: (x, a) :: m₁) σ₁))
    (hx : Stor C f x := by first | exact Stor_local (by rfl) | exact Stor_cell (by assumption) (by rfl)) (hy : Stor C f y := by first | exact Stor_local (by rfl) | exact Stor_cell (by assumption) (by rfl))
    (hs : swapsWithSole [.Tuple [.Name x px, .Name y py] k tpos] value pos.line f.env = pure false := by rfl)
    (hw : swappedStores [.Tuple [.Name x px, .Name y py] k tpos] value f.env = pure none := by rfl) :
    TX C f m σ (exec (.Assign [.Tuple [.Name x px, .Name y py] k tpos] value pos) f.env) Q := fun ha Fz s hst => by
  refine Assign_Tuple (h.run ha hst fun v m₁ σ₁ s₁ h1 k1 q1 => ?_) hs hw
  obtain ⟨t, a, b, e, ht, q1⟩ := q1
  rw [er_ref e]
  obtain ⟨⟨ws, n', hg, hw⟩, _⟩ := h1.sto _ _ ht
  have hlen : ws.size = 2 := by have := congrArg List.length hw; simpa using this
  obtain ⟨l⟩ := ws
  match l, hlen, hw with
  | [u, w], _, hw =>
    simp only [List.map_cons, List.map_nil, List.cons.injEq, and_true] at hw
    obtain ⟨rfl, rfl⟩ := hw
    refine assign_Tuple_tuple (items := #[u, w]) ha.2.2 ⟨_, hg, rfl, _, rfl⟩ rfl rfl fun h' he => ?_
    have q := h1.grow (s' := { s₁ with heap := h' }) (σ' := σ₁) (fun b o e => he b o (Nat.ne_of_lt (Heap.lt_size e)) e) (fun a o e => .inl e) rfl rfl
    refine assignInOrder_cons (t := assign (.Name x px) f.env) (wpAny_assign_Name (T.run (hx _ _ _ (fun _ m' σ' => m' = (x, er u) :: m₁ ∧ σ' = σ₁) ⟨rfl, rfl⟩) ha q.1 fun _ m₂ σ₂ s₂ h2 k2 q2 => ?_))
    obtain ⟨rfl, rfl⟩ := q2
    refine assignInOrder_cons (t := assign (.Name y py) f.env) (wpAny_assign_Name (T.run (hy _ _ _ (fun _ m' σ' => m' = (y, er w) :: (x, er u) :: m₁ ∧ σ' = σ₂) ⟨rfl, rfl⟩) ha h2 fun _ m₃ σ₃ s₃ h3 k3 q3 => ?_))
    obtain ⟨rfl, rfl⟩ := q3
    exact assignInOrder_nil ⟨_, _, h3, fun b hb => ((k3 b hb).trans (k2 b hb)).trans ((q.2 b hb).trans (k1 b hb)), q1⟩

theorem TX_AssignSwap2 {x y : Str} {px py tpos pos : Pos} {k : Nat} {value : Expr} {Q : Flow → LM → Store → Prop}
    (h : TE C f m σ value (fun v m₁ σ₁ => ∃ t a b, v = .ref t ∧ σ₁ t = some (.tup [a, b]) ∧ Q .next ((x, a) :: (y, b) :: m₁) σ₁))
    (hw : swappedStores [.Tuple [.Name x px, .Name y py] k tpos] value f.env = pure (some [x, y]))
    (hx : Stor C f x := by first | exact Stor_local (by rfl) | exact Stor_cell (by assumption) (by rfl)) (hy : Stor C f y := by first | exact Stor_local (by rfl) | exact Stor_cell (by assumption) (by rfl))
    (hs : swapsWithSole [.Tuple [.Name x px, .Name y py] k tpos] value pos.line f.env = pure false := by rfl) :
    TX C f m σ (exec (.Assign [.Tuple [.Name x px, .Name y py] k tpos] value pos) f.env) Q := fun ha Fz s hst => by
  refine Assign_Tuple_swapped (h.run ha hst fun v m₁ σ₁ s₁ h1 k1 q1 => ?_) hs hw
  obtain ⟨t, a, b, e, ht, q1⟩ := q1
  rw [er_ref e]
  refine T.run (T_unpack (Q := fun ws m' σ' => ws = [a, b] ∧ m' = m₁ ∧ σ' = σ₁) ht rfl ⟨rfl, rfl, rfl⟩) ha h1 fun ws m₂ σ₂ s₂ h2 k2 q2 => ?_
  obtain ⟨hws, rfl, rfl⟩ := q2
  match ws, hws with
  | [u, w], hw =>
    simp only [List.map_cons, List.map_nil, List.cons.injEq, and_true] at hw
    obtain ⟨rfl, rfl⟩ := hw
    show wpAny _ _ (assignInOrder [fun v => bindName f.env y v, fun v => bindName f.env x v] [w, u]) _ _ _
    refine assignInOrder_cons (wpAny_bindName (T.run (hy _ _ _ (fun _ m' σ' => m' = (y, er w) :: m₂ ∧ σ' = σ₂) ⟨rfl, rfl⟩) ha h2 fun _ m₃ σ₃ s₃ h3 k3 q3 => ?_))
    obtain ⟨rfl, rfl⟩ := q3
    refine assignInOrder_cons (wpAny_bindName (T.run (hx _ _ _ (fun _ m' σ' => m' = (x, er u) :: (y, er w) :: m₂ ∧ σ' = σ₃) ⟨rfl, rfl⟩) ha h3 fun _ m₄ σ₄ s₄ h4 k4 q4 => ?_))
    obtain ⟨rfl, rfl⟩ := q4
    exact assignInOrder_nil ⟨_, _, h4, fun b hb => ((k4 b hb).trans (k3 b hb)).trans ((k2 b hb).trans (k1 b hb)), q1⟩

end
end Mine
end
section
open PySem PySem.W PySem.Calls PyProof.Rows
namespace Mine
section
variable {prog : Program} {K : Params → Frag} {n : Nat} {ns : List (Str × NameKind)}
variable {C : Cx prog K} {f : Fx n ns} {m : LM} {σ : Store}

theorem St.setAt {Fz : Addr → Prop} {s s' : Shared} {a : Addr} {o o' : AObj} (h : St C Fz f m σ s) (ha : σ a = some o) (hs : Heap.SameBut a s.heap s'.heap)
    (hc : Conc s'.heap a o') (eg : s'.gens = s.gens) (eo : s'.os = s.os) : St C Fz f m (upd σ a o') s' ∧ ∀ b, Fz b → s'.heap.get? b = s.heap.get? b := by
  obtain ⟨c1, c2, c3, c4⟩ := h.sto _ _ ha
  have neO : ∀ b, b ∈ f.own → b ≠ a := fun b hb z => c4 (z ▸ hb)
  have neF : ∀ b, Fz b → b ≠ a := fun b hb z => c3 (z ▸ hb)
  refine ⟨⟨fun b o e => ?_, h.above, h.loc.same (hs.2 _ (neO _ h.loWn)) fun x c hx => ?_, fun b o e => ?_, fun b hb => ?_, eg.trans h.gens, eo.trans h.os, fun b hb => ?_, h.loWn, h.cellsIn⟩, fun b hb => hs.2 b (neF b hb)⟩
  · exact (hs.2 b fun z => by subst z; rw [c2] at e; cases e).trans (h.keep b o e)
  · exact hs.2 c ((h.cellsIn x c hx).elim (neO c) (neF c))
  · rcases upd_cases e with ⟨rfl, rfl⟩ | ⟨hne, e⟩
    · exact ⟨hc, c2, c3, c4⟩
    · obtain ⟨d1, d2, d3, d4⟩ := h.sto _ _ e
      exact ⟨d1.same (hs.2 b hne), d2, d3, d4⟩
  · obtain ⟨⟨o, ho⟩, hn⟩ := h.fz b hb
    exact ⟨⟨o, (hs.2 b (neF b hb)).trans ho⟩, hn⟩
  · obtain ⟨ht, o, ho⟩ := h.own b hb
    exact ⟨ht, o, (hs.2 b (neO b hb)).trans ho⟩

structure SetOk (K' : Frag) (cl : Addr) (name : Str) : Prop where
  sa : findIn K' (.ref cl) "__setattr__" = some (some (.builtin "object.__setattr__"))
  po : plainOver K' cl = true
  tk : takerIn K' cl name = some none
  hd : hasDictIn K' cl = true

theorem isStr_self (x : Str) (t : Tok) (y : Str) : (Value.str x t).isStr y = (x == y) := rfl
theorem isStr_two {k : Value} {x y : Str} (h : k.isStr x = true) (z : ¬ y = x) : k.isStr y = false := by
  cases k with
  | str s t =>
    rw [isStr_self] at h ⊢
    have := eq_of_beq h; subst this
    exact beq_eq_false_iff_ne.mpr fun e => z e.symm
  | _ => rfl
theorem fieldOf_putL (x : Str) (hsh : Int) (t : Tok) (v : Value) (y : Str) : ∀ es : List DictEntry, fieldOf (putL x hsh (.str x t) v es) y = if y = x then some v else fieldOf es y
  | [] => by
    unfold putL fieldOf
    rw [List.find?_cons, isStr_self]
    by_cases z : y = x
    · subst z; simp
    · have : (x == y) = false := beq_eq_false_iff_ne.mpr fun e => z e.symm
      simp [this, z]
  | e :: r => by
    have ih := fieldOf_putL x hsh t v y r
    unfold putL
    cases q : e.key.isStr x with
    | true =>
      simp only [if_true]
      by_cases z : y = x
      · subst z; unfold fieldOf; rw [List.find?_cons, q]; simp
      · have hy := isStr_two q z
        unfold fieldOf
        rw [List.find?_cons, List.find?_cons, hy, if_neg z]
    | false =>
      simp only [Bool.false_eq_true, if_false]
      unfold fieldOf at ih ⊢
      rw [List.find?_cons, List.find?_cons]
      cases q2 : e.key.isStr y with
      | true =>
        have : ¬ y = x := fun z => by subst z; rw [q] at q2; cases q2
        simp [this]
      | false => exact ih
theorem noRef_putL (x : Str) (hsh : Int) (t : Tok) (v : Value) : ∀ {es : List DictEntry}, es.any (·.refKey) = false → (putL x hsh (.str x t) v es).any (·.refKey) = false
  | [], _ => rfl
  | e :: r, h => by
    rw [List.any_cons, Bool.or_eq_false_iff] at h
    unfold putL
    split
    · rw [List.any_cons, Bool.or_eq_false_iff]; exact h
    · rw [List.any_cons, Bool.or_eq_false_iff]; exact ⟨h.1, noRef_putL x hsh t v h.2⟩
theorem FieldsAre.put {es : List DictEntry} {fs : List (Str × Value)} (h : FieldsAre es fs) (x : Str) (hsh : Int) (t : Tok) (v : Value) : FieldsAre (putL x hsh (.str x t) v es) ((x, er v) :: fs) :=
  ⟨noRef_putL x hsh t v h.1, fun y => by
    rw [fieldOf_putL, lookup_put]
    by_cases z : y = x
    · rw [if_pos z, if_pos z]; rfl
    · rw [if_neg z, if_neg z]; exact h.2 y⟩
theorem length_putL (x : Str) (hsh : Int) (k v : Value) : ∀ es : List DictEntry, (putL x hsh k v es).length ≤ es.length + 1
  | [] => Nat.le_refl _
  | e :: r => by
    unfold putL
    split
    · simp
    · have := length_putL x hsh k v r; simp; omega

theorem T_setAttr {x cl dx : Addr} {fs : List (Str × Value)} {name : Str} {v : Value} {Q : Unit → LM → Store → Prop} (hx : σ x = some (.inst cl dx)) (hd : σ dx = some (.dict fs)) (hz : fs.length ≤ 100) (ok : SetOk (K C.w.params) cl name)
    (h : Q () m (upd σ dx (.dict ((name, er v) :: fs)))) : T C f m σ (setAttr (.ref x) name v) Q := fun ha Fz s hs => by
  have X := C.X.keeps hs.keep
  have cx := (hs.sto _ _ hx).1
  obtain ⟨es, n', hod, hfa, hlen⟩ := (hs.sto _ _ hd).1
  have I : InstAt s.heap x (instObj cl dx) cl (some (dictOf es n')) := ⟨cx, rfl, rfl, hod⟩
  obtain ⟨hp, g, d, tk, os⟩ := s
  refine set_plain X I ok.sa (osa_open (s := ⟨hp, g, d, tk + 1, os⟩) X I ok.po ok.tk fun b => ?_)
  obtain ⟨cd, hc, hd'⟩ := any_some ok.hd
  have X' : (K C.w.params).In (⟨hp, g, d, tk + 1, os⟩ : Shared).heap := X
  refine wpAny_bind (wpAny_pure (wpAny_bind (wpAny_bind (wpAny_loadPart (s := ⟨hp, g, d, tk + 1, os⟩) cx (wpAny_bind ((looks_clsIn X' hc).here ?_))))))
  rw [hd']
  refine wpAny_pure (a := some dx) (wpAny_bind (wpAny_pure (wpAny_bind ?_)))
  unfold nsSet
  have hod' : (⟨hp, g, d, tk + 1 + 1, os⟩ : Shared).heap.get? dx = some (dictOf es n') := hod
  refine wpAny_bind (wpAny_bind (wpAny_askSetting (wpAny_pure (wpAny_bind (wpAny_mkText (wpAny_bind (wpAny_loadPart hod' ?_)))))))
  have c : (!es.toArray.any (·.key.isStr name) && es.toArray.any (·.refKey)) = false := by
    rw [← Array.any_toList, ← Array.any_toList, hfa.1, Bool.and_false]
  dsimp only [dictOf]
  rw [aRefKeyMayBeTheName_at, c]
  refine wpAny_updatePart hod' ?_
  have hup := Heap.get?_update_self (h := hp) (Obj.putName name (PyData.keyHash C.w.params name) (.str name (tk + 1)) v) hod (by rw [putName_dict]; rfl)
  rw [putName_dict] at hup
  refine wpAny_bind (wpAny_lookBehind (s := ⟨hp.update dx _, g, d, tk + 1 + 1, os⟩) hup (pastItsLine_dict ?_) (wpAny_pure ?_))
  · have := length_putL name (PyData.keyHash C.w.params name) (.str name (tk + 1)) v es
    rw [List.size_toArray, sizeLine_eq]; omega
  · have q := hs.setAt (s' := ⟨hp.update dx (Obj.putName name (PyData.keyHash C.w.params name) (.str name (tk + 1)) v), g, d, tk + 1 + 1, os⟩) (o' := .dict ((name, er v) :: fs)) hd (Heap.SameBut.update ..) ⟨_, _, hup, hfa.put _ _ _ _, ?_⟩ rfl rfl
    · exact ⟨m, _, q.1, q.2, h⟩
    · have := length_putL name (PyData.keyHash C.w.params name) (.str name (tk + 1)) v es
      simp only [List.length_cons]; omega

theorem TX_AssignAttr {o value : Expr} {name : Str} {pos' pos : Pos} {Q : Flow → LM → Store → Prop}
    (h : TE C f m σ value (fun v m₁ σ₁ => TE C f m₁ σ₁ o (fun ov m₂ σ₂ => ∃ x cl dx fs, ov = .ref x ∧ σ₂ x = some (.inst cl dx) ∧ σ₂ dx = some (.dict fs) ∧ fs.length ≤ 100 ∧ SetOk (K C.w.params) cl name ∧ Q .next m₂ (upd σ₂ dx (.dict ((name, v) :: fs))))))
    (hs : swapsWith value (some (.Attribute o name pos')) pos.line f.env = pure false := by rfl) :
    TX C f m σ (exec (.Assign [.Attribute o name pos'] value pos) f.env) Q := fun ha Fz s hst =>
  plainObj_wpAny_Assign_Attribute (h.run ha hst fun v m₁ σ₁ s₁ h1 k1 q1 => q1.run ha h1 fun ov m₂ σ₂ s₂ h2 k2 q2 => by
    obtain ⟨x, cl, dx, fs, e, hx, hdx, hz, ok, q2⟩ := q2
    rw [er_ref e]
    exact T.thn (T_setAttr (Q := fun _ m σ => Q .next m σ) hx hdx hz ok q2) ha h2 fun b hb => (k2 b hb).trans (k1 b hb)) hs

structure ClsOk (K' : Frag) (cl fi : Addr) : Prop where
  mks : makesIn K' cl = true
  ini : findIn K' (.ref cl) "__init__" = some (some (.ref fi))
  fn : isFn K' (.ref fi) = true

theorem Spec_cls {k : Nat} {cl fi : Addr} {args : List Value} {Q : Value → Store → Prop} (ok : ClsOk (K C.w.params) cl fi)
    (h : ∀ x dx, σ x = none → σ dx = none → x ≠ dx → Spec C k (.ref fi) (.ref x :: args) (upd (upd σ dx (.dict [])) x (.inst cl dx)) (fun v σ' => v = .none ∧ Q (.ref x) σ')) :
    Spec C (k + 1) (.ref cl) args σ Q := by
  intro A ha Fz s ws hws hO
  have X := C.X.keeps hO.1
  have hk : ∀ b o, s.heap.get? b = some o → ((s.heap.push emptyDict).push (instObj cl s.heap.objs.size)).get? b = some o := fun b o e => Heap.get?_push_of_some _ (Heap.get?_push_of_some _ e)
  have nn : ∀ b, s.heap.objs.size ≤ b → σ b = none ∧ ¬ Fz b ∧ C.top.get? b = none := fun b hb => by
    refine ⟨?_, fun q => ?_, ?_⟩
    · cases q : σ b with
      | none => rfl
      | some o => obtain ⟨ob, hob⟩ := (hO.2.1 _ _ q).1.some; exact absurd (Heap.lt_size hob) (Nat.not_lt.mpr hb)
    · obtain ⟨o, ho⟩ := hO.2.2.1 _ q; exact absurd (Heap.lt_size ho) (Nat.not_lt.mpr hb)
    · cases q : C.top.get? b with
      | none => rfl
      | some o => exact absurd (Heap.lt_size (hO.1 _ _ q)) (Nat.not_lt.mpr hb)
  have hx : ((s.heap.push emptyDict).push (instObj cl s.heap.objs.size)).get? (s.heap.objs.size + 1) = some (instObj cl s.heap.objs.size) := by
    have := Heap.get?_push_size (s.heap.push emptyDict) (o := instObj cl s.heap.objs.size) rfl
    rwa [Heap.size_push] at this
  have hdx : ((s.heap.push emptyDict).push (instObj cl s.heap.objs.size)).get? s.heap.objs.size = some emptyDict := Heap.get?_push_of_some _ (Heap.get?_push_size _ rfl)
  obtain ⟨hp, g, d, tk, os⟩ := s
  refine make_core (makes_of X ok.mks) (looks_findIn X ok.ini) (fun self => bind_fn X self (beq_iff_eq.mp ok.fn)) (.inl rfl) ?_
  refine codeAny_mono (h (hp.objs.size + 1) hp.objs.size (nn _ (Nat.le_succ _)).1 (nn _ (Nat.le_refl _)).1 (Nat.succ_ne_self _) (Around.under A (.builtin "type.__call__" ⟨.ref cl :: ws, []⟩)) ⟨?_, ?_, ?_⟩ Fz ⟨(hp.push emptyDict).push (instObj cl hp.objs.size), g, d, tk, os⟩ (.ref (hp.objs.size + 1) :: ws) (by rw [List.map_cons, hws]; rfl) ⟨?_, ?_, ?_, hO.2.2.2.1, hO.2.2.2.2⟩) fun r s' z => ?_
  · rw [depth_under_make]; have := ha.1; omega
  · rw [units_under_make]; have := ha.2.1; omega
  · exact ha.2.2
  · exact fun b o e => hk b o (hO.1 b o e)
  · intro a o e
    rcases upd_cases e with ⟨rfl, rfl⟩ | ⟨_, e⟩
    · exact ⟨hx, (nn _ (Nat.le_succ _)).2.2, (nn _ (Nat.le_succ _)).2.1⟩
    · rcases upd_cases e with ⟨rfl, rfl⟩ | ⟨_, e⟩
      · exact ⟨⟨[], 0, hdx, ⟨rfl, fun x => rfl⟩, Nat.le_refl _⟩, (nn _ (Nat.le_refl _)).2.2, (nn _ (Nat.le_refl _)).2.1⟩
      · obtain ⟨c1, c2, c3⟩ := hO.2.1 a o e
        obtain ⟨ob, hob⟩ := c1.some
        exact ⟨c1.same ((hk a ob hob).trans hob.symm), c2, c3⟩
  · intro b hb
    obtain ⟨o, ho⟩ := hO.2.2.1 b hb
    exact ⟨o, hk b o ho⟩
  · obtain ⟨v, σ', rfl, hO', hkp, hv, hq⟩ := z
    refine ⟨er_none hv, .ref (hp.objs.size + 1), σ', rfl, hO', fun b hb => ?_, hq⟩
    obtain ⟨o, ho⟩ := hO.2.2.1 b hb
    exact (hkp b hb).trans ((hk b o ho).trans ho.symm)

theorem map_er1 {ws : List Value} {a : Value} (h : ws.map er = [a]) : ∃ u, ws = [u] ∧ er u = a := by
  rcases ws with _ | ⟨u, _ | ⟨w, r⟩⟩ <;> simp at h
  exact ⟨u, rfl, h⟩
theorem map_er2 {ws : List Value} {a b : Value} (h : ws.map er = [a, b]) : ∃ u w, ws = [u, w] ∧ er u = a ∧ er w = b := by
  rcases ws with _ | ⟨u, _ | ⟨w, _ | ⟨x, r⟩⟩⟩ <;> simp at h
  exact ⟨u, w, rfl, h⟩
theorem map_er3 {ws : List Value} {a b c : Value} (h : ws.map er = [a, b, c]) : ∃ u w x, ws = [u, w, x] ∧ er u = a ∧ er w = b ∧ er x = c := by
  rcases ws with _ | ⟨u, _ | ⟨w, _ | ⟨x, _ | ⟨y, r⟩⟩⟩⟩ <;> simp at h
  exact ⟨u, w, x, rfl, h⟩

theorem TX_AssignSub {o i value : Expr} {pos' pos : Pos} {Q : Flow → LM → Store → Prop}
    (h : TE C f m σ value (fun v m₁ σ₁ => TE C f m₁ σ₁ o (fun ov m₂ σ₂ => TE C f m₂ σ₂ i (fun iv m₃ σ₃ => ∃ (a : Addr) (k : Int) (r : Role) (vs : List Value), ov = .ref a ∧ iv = I k ∧ 0 ≤ k ∧ k < 2 ^ 62 ∧ σ₃ a = some (.list r vs) ∧ k.toNat < vs.length ∧ Q .next m₃ (upd σ₃ a (.list r (vs.set k.toNat v)))))))
    (hs : swapsWith value (some (.Subscript o i pos')) pos.line f.env = pure false := by rfl) :
    TX C f m σ (exec (.Assign [.Subscript o i pos'] value pos) f.env) Q := fun ha Fz s hst =>
  wpAny_Assign_Subscript (h.run ha hst fun v m₁ σ₁ s₁ h1 k1 q1 => q1.run ha h1 fun ov m₂ σ₂ s₂ h2 k2 q2 => q2.run ha h2 fun iv m₃ σ₃ s₃ h3 k3 q3 => by
    obtain ⟨a, k, r, vs, e1, e2, h0, hh, hl, hlt, q3⟩ := q3
    rw [er_ref e1]
    obtain ⟨t, rfl⟩ := er_int e2
    obtain ⟨⟨ws, n', hg, hw⟩, _⟩ := h3.sto _ _ hl
    have hsz : ws.size = vs.length := by rw [← hw]; simp
    refine ki_setAt (n := n') hg h0 (by omega) (by omega) ?_
    have q := h3.setAt (s' := { s₃ with heap := s₃.heap.update a (Obj.mapSeq (·.setIfInBounds k.toNat v)) }) (o' := .list r (vs.set k.toNat (er v))) hl (Heap.SameBut.update ..) ?_ rfl rfl
    · exact ⟨m₃, _, q.1, fun b hb => (q.2 b hb).trans (((k3 b hb).trans (k2 b hb)).trans (k1 b hb)), q3⟩
    · refine ⟨ws.setIfInBounds k.toNat v, _, Heap.get?_update_self _ hg rfl, ?_⟩
      rw [← hw]
      simp [List.map_set]) hs

theorem CallV_append {a : Addr} {r : Role} {vs : List Value} {v : Value} {Q : Value → LM → Store → Prop} (ha : σ a = some (.list r vs)) (hlen : vs.length ≤ 1000) (h : Q .none m (upd σ a (.list r (vs ++ [v])))) : CallV C f m σ (.builtin "list.append") [.ref a, v] Q := by
  intro ws hws hA Fz s hs
  obtain ⟨u, w, rfl, hu, rfl⟩ := map_er2 hws
  rw [er_ref hu]
  obtain ⟨⟨xs, n', hg, hx⟩, _⟩ := hs.sto _ _ ha
  have hsz : xs.size = vs.length := by rw [← hx]; simp
  refine wpAny_list_append_plain (items := xs) ⟨n', hg⟩ (fun h' hp' hsb => ?_) (by rw [sizeLine_eq]; omega)
  obtain ⟨n'', hg'⟩ := hp'
  have q := hs.setAt (s' := { s with heap := h' }) (o' := .list r (vs ++ [er w])) ha hsb ⟨_, _, hg', by rw [← hx]; simp⟩ rfl rfl
  exact ⟨m, _, q.1, q.2, h⟩

theorem TE_append {o e : Expr} {apos pos : Pos} {pl : Sem Bool} {Q : Value → LM → Store → Prop}
    (h : TE C f m σ o (fun ov m₁ σ₁ => ∃ a r vs, ov = .ref a ∧ σ₁ a = some (.list r vs) ∧ TE C f m₁ σ₁ e (fun v m₂ σ₂ => CallV C f m₂ σ₂ (.builtin "list.append") [.ref a, v] Q)))
    (he : eval (.Call (.Attribute o "append" apos) [e] [] pos) f.env = (do
      let ov ← eval o f.env
      standAt apos.atName
      let (f', first) ← holding [ov] (getMethod ov "append" pl)
      callWith pos f' first (backTo pos (starEach [e] f.env)) []) := by rfl)
    (hp : ((backTo pos (starEach [e] f.env)).any (·.1)) = false := by rfl) (he' : starEach [e] f.env = (false, eval e f.env) :: starEach [] f.env := by rfl) : TE C f m σ (.Call (.Attribute o "append" apos) [e] [] pos) Q := fun ha Fz s hs => by
  refine MethodCall_ (pl := pl) (h.run ha hs fun ov m' σ' s' h1 k1 q1 => ?_) he
  obtain ⟨a, r, vs, e1, hl, q1⟩ := q1
  rw [er_ref e1]
  obtain ⟨⟨ws, n', hg, hw⟩, _⟩ := h1.sto _ _ hl
  refine getMethod_list_append hg rfl rfl ?_
  have qa : TArgs C f m' σ' pos [e] (fun us m₂ σ₂ => ∃ v, us = [v] ∧ CallV C f m₂ σ₂ (.builtin "list.append") [.ref a, v] Q) := TArgs_cons (q1.mono fun v m₂ σ₂ q => TArgs_nil ⟨er v, rfl, q⟩) he'
  refine callWith_any (C := C) (K' := K C.w.params) .bi hp (qa.run ha h1 fun us m₂ σ₂ s₂ h2 k2 q2 => ⟨C.X.keeps h2.keep, ?_⟩)
  obtain ⟨v, hv, q2⟩ := q2
  exact T.thn (q2 (.ref a :: us) (by rw [List.map_cons, hv]; rfl)) ha h2 fun b hb => (k2 b hb).trans (k1 b hb)

theorem St.kept {Fz : Addr → Prop} {s : Shared} {h' : Heap} (tk : Nat) (h : St C Fz f m σ s) (hk : ∀ b o, s.heap.get? b = some o → h'.get? b = some o) : St C Fz f m σ { s with heap := h', toks := tk } ∧ ∀ b, Fz b → h'.get? b = s.heap.get? b :=
  h.grow (s' := { s with heap := h', toks := tk }) hk (fun a o e => .inl e) rfl rfl

section
variable {i j k : Int} {Q : Value → LM → Store → Prop}
theorem Op2_mulL {a : Addr} {r : Role} {v : Value} (hl : σ a = some (.list r [v])) (h0 : 0 ≤ i) (h1 : i ≤ 1000) (h : ∀ b, σ b = none → Q (.ref b) m (upd σ b (.list .plain (List.replicate i.toNat v)))) : Op2 C f m σ (binaryOp .Mult) (.ref a) (I i) Q := fun u w hu hw => by
  obtain ⟨t, rfl⟩ := er_int hw
  have hu := er_ref hu; subst hu
  intro hA Fz s hs
  obtain ⟨⟨ws, n', hg, hws⟩, _⟩ := hs.sto _ _ hl
  obtain ⟨l⟩ := ws
  match l, hws with
  | [x], hx =>
    simp only [List.map_cons, List.map_nil, List.cons.injEq, and_true] at hx
    refine wpAny_binaryOp_repeat_ref (T := "list") (U := "int") (by decide) ⟨_, hg, rfl⟩ (fun s' => typeIs_int s' i t) noFill_list_mul F.fills_int_mul F.slot_int_rmul repeat_list F.slot_int_index.lookup
      (call_meets F.slot_int_rmul (typeIs_int s i t) F.entry_int_rmul (F.args_int_rmul_2 _ _) (int___rmul___int_list i t a _ n')
        ⟨hg, rfl, ⟨_, hg, rfl⟩, call_meets F.slot_list_mul ⟨_, hg, rfl⟩ F.entry_list_mul (F.args_list_mul_2 _ _)
          (AutoListH.list___mul___list_int_3 a _ n' i t (by simp [Builtin.List.listFitsIndex]; omega) (by simp; omega) (by simp [Builtin.List.listTooLong, sizeLine]; omega)) ⟨hg, ?_⟩⟩)
    have e : ∀ k : Nat, ∀ acc : Array Value, (List.foldl (fun x1 x2 => x1 ++ x2) acc (List.replicate k #[x])).toList.map er = acc.toList.map er ++ List.replicate k v := by
      intro k
      induction k with
      | zero => intro acc; simp
      | succ k ih => intro acc; rw [List.replicate_succ, List.foldl_cons, ih]; simp [hx, List.replicate_succ]
    have q := hs.push (ob := { cls := .type "list", data := .seq (List.foldl (fun x1 x2 => x1 ++ x2) #[] (List.replicate (if (#[x] : Array Value).isEmpty = true then 0 else i.toNat) #[x])) }) (o := .list .plain (List.replicate i.toNat v)) s.toks rfl (fun h' e' => ⟨_, _, e', by rw [if_neg (by simp), e]; simp⟩)
    exact ⟨m, _, q.1, q.2, h _ (Owns.fresh hs).1⟩

theorem Op2_addT {a b : Addr} {xs ys : List Value} (hx : σ a = some (.tup xs)) (hy : σ b = some (.tup ys)) (nx : xs ≠ []) (ny : ys ≠ []) (hsz : xs.length + ys.length ≤ 1000) (h : ∀ c, σ c = none → Q (.ref c) m (upd σ c (.tup (xs ++ ys)))) : Op2 C f m σ (binaryOp .Add) (.ref a) (.ref b) Q := fun u w hu hw => by
  have hu := er_ref hu; subst hu
  have hw := er_ref hw; subst hw
  intro hA Fz s hs
  obtain ⟨⟨us, n1, hg1, hw1⟩, _⟩ := hs.sto _ _ hx
  obtain ⟨ws, n2, hg2, hw2⟩ := (hs.sto _ _ hy).1
  have z1 : us.size = xs.length := by rw [← hw1]; simp
  have z2 : ws.size = ys.length := by rw [← hw2]; simp
  have p1 : 0 < xs.length := List.length_pos_iff.mpr nx
  have p2 : 0 < ys.length := List.length_pos_iff.mpr ny
  have q := hs.push (ob := { cls := .type "tuple", data := .seq (us ++ ws) }) (o := .tup (xs ++ ys)) s.toks rfl (fun h' e' => ⟨_, _, e', by rw [← hw1, ← hw2]; simp⟩)
  exact PySem.P.add_tuple (items := us) (items2 := ws) (n := n1) (n2 := n2) hg1 hg2 (by rw [Array.isEmpty_iff]; rintro rfl; simp at z1; omega) (by rw [Array.isEmpty_iff]; rintro rfl; simp at z2; omega) ⟨m, _, q.1, q.2, h _ (Owns.fresh hs).1⟩ (by rw [sizeLine_eq]; omega)
end

theorem TX_Aug {x : Str} {px pos : Pos} {op : Operator} {value : Expr} {v₀ : Value} {Q : Flow → LM → Store → Prop} (hv : m.lookup x = some v₀)
    (h : TE C f m σ value (fun v m₁ σ₁ => Op2 C f m₁ σ₁ (inplaceOp op) v₀ v (fun w m₂ σ₂ => Q .next ((x, w) :: m₂) σ₂)))
    (hl : ns.lookup x = some .local := by rfl) : TX C f m σ (exec (.AugAssign (.Name x px) op value pos) f.env) Q := fun ha Fz s hs => by
  obtain ⟨m', hn, hm⟩ := hs.loc.ns
  have hlk := f.kind_of hl
  have := hm x v₀ hv hlk
  cases e : m' x with
  | none => rw [e] at this; cases this
  | some u =>
    rw [e] at this
    have hu : er u = v₀ := Option.some.inj this
    refine wpAny_AugAssign_Name (wpAny_loadName_local f.hk hlk hn e (h.run ha hs fun v m₁ σ₁ s₁ h1 k1 q1 => T.run (q1 u v hu rfl) ha h1 fun w m₂ σ₂ s₂ h2 k2 q2 => ?_))
    exact wpAny_mono (T.thn (T_store (Q := fun _ m σ => Q .next m σ) q2 hl) ha h2 fun b hb => (k2 b hb).trans (k1 b hb)) (fun _ _ x => x) fun _ _ x => x
theorem Op2_iadd {i j : Int} {Q : Value → LM → Store → Prop} (h : Q (I (i + j)) m σ) : Op2 C f m σ (inplaceOp .Add) (I i) (I j) Q := fun u v hu hv => by
  obtain ⟨_, rfl⟩ := er_int hu
  obtain ⟨_, rfl⟩ := er_int hv
  exact fun _ _ _ hs => P.iadd_int ⟨m, σ, hs.toks rfl rfl rfl, fun _ _ => rfl, h⟩
end
end Mine
end
section
open PySem PySem.W PySem.Calls PyProof.Rows
namespace Mine
section
variable {prog : Program} {K : Params → Frag} {n : Nat} {ns : List (Str × NameKind)}
variable {C : Cx prog K} {f : Fx n ns} {m : LM} {σ : Store}

section
variable {i j : Int} {Q : Value → LM → Store → Prop}
theorem CallV_lenL {a : Addr} {r : Role} {vs : List Value} (hl : σ a = some (.list r vs)) (hz : vs.length ≤ 1000) (h : Q (I vs.length) m σ) : CallV C f m σ (.builtin "len") [.ref a] Q := fun ws hws hA Fz s hs => by
  obtain ⟨u, rfl, hu⟩ := map_er1 hws
  rw [er_ref hu]
  obtain ⟨us, il, hw⟩ := SK.isList hs hl
  have hsz : us.size = vs.length := by rw [← hw]; simp
  exact call_len_list il (by omega) ⟨m, σ, hs.toks rfl rfl rfl, fun _ _ => rfl, (by show Q (I us.size) m σ; rw [hsz]; exact h)⟩
theorem CallV_max2 (h : Q (I (max i j)) m σ) : CallV C f m σ (.builtin "max") [I i, I j] Q := fun ws hws hA Fz s hs => by
  obtain ⟨u, w, rfl, hu, hw⟩ := map_er2 hws
  obtain ⟨_, rfl⟩ := er_int hu
  obtain ⟨_, rfl⟩ := er_int hw
  refine max_two_ints hA.2.2 fun h' tk hk => ?_
  have q := hs.kept tk hk
  refine ⟨m, σ, q.1, q.2, ?_⟩
  by_cases c : j > i
  · rw [if_pos c]; show Q (I j) m σ; rwa [show max i j = j by omega] at h
  · rw [if_neg c]; show Q (I i) m σ; rwa [show max i j = i by omega] at h
theorem CallV_min2 (h : Q (I (min i j)) m σ) : CallV C f m σ (.builtin "min") [I i, I j] Q := fun ws hws hA Fz s hs => by
  obtain ⟨u, w, rfl, hu, hw⟩ := map_er2 hws
  obtain ⟨_, rfl⟩ := er_int hu
  obtain ⟨_, rfl⟩ := er_int hw
  refine min_two_ints hA.2.2 fun h' tk hk => ?_
  have q := hs.kept tk hk
  refine ⟨m, σ, q.1, q.2, ?_⟩
  by_cases c : j < i
  · rw [if_pos c]; show Q (I j) m σ; rwa [show min i j = j by omega] at h
  · rw [if_neg c]; show Q (I i) m σ; rwa [show min i j = i by omega] at h
theorem ints_of : ∀ {us : List Value} {is : List Int}, us.map er = is.map I → ∃ xs : List (Int × Tok), us = xs.map (fun p => Value.int p.1 p.2) ∧ xs.map (·.1) = is
  | [], [], _ => ⟨[], rfl, rfl⟩
  | u :: us, i :: is, h => by
    simp only [List.map_cons, List.cons.injEq] at h
    obtain ⟨t, rfl⟩ := er_int h.1
    obtain ⟨xs, rfl, rfl⟩ := ints_of h.2
    exact ⟨(i, t) :: xs, rfl, rfl⟩
  | [], _ :: _, h => by simp at h
  | _ :: _, [], h => by simp at h
theorem CallV_maxL {a : Addr} {r : Role} {is : List Int} (hl : σ a = some (.list r (is.map I))) (hne : is ≠ []) (h : ∀ M, M ∈ is → (∀ x ∈ is, x ≤ M) → Q (I M) m σ) : CallV C f m σ (.builtin "max") [.ref a] Q := fun ws hws hA Fz s hs => by
  obtain ⟨u, rfl, hu⟩ := map_er1 hws
  rw [er_ref hu]
  obtain ⟨us, il, hw⟩ := SK.isList hs hl
  obtain ⟨xs, hus, hxs⟩ := ints_of hw
  have e : us = intItems xs.toArray := by
    apply Array.toList_inj.mp
    rw [hus]; simp [intItems]
  subst e
  have hlen : xs.length = is.length := by rw [← hxs]; simp
  have hpos : 0 < is.length := List.length_pos_iff.mpr hne
  refine max_intList hA.2.2 il (by simp; omega) fun v h' tk hv hk => ?_
  have q := hs.kept tk hk
  obtain ⟨t, rfl⟩ := intItems_at hv
  have num : ∀ j, j < is.length → numAt xs.toArray j ∈ is ∧ is[j]? = some (numAt xs.toArray j) := fun j hj => by
    have : j < xs.length := by omega
    have e1 : numAt xs.toArray j = xs[j].1 := by simp [numAt, this]
    have e2 : is[j]? = some xs[j].1 := by rw [← hxs]; simp [this]
    rw [e1]; exact ⟨List.mem_of_getElem? e2, e2⟩
  obtain ⟨b1, b2⟩ := argBest_gt (numAt xs.toArray) (xs.toArray.size - 1)
  refine ⟨m, σ, q.1, q.2, h _ (num _ ?_).1 fun x hx => ?_⟩
  · have : xs.toArray.size = xs.length := by simp
    omega
  · obtain ⟨j, hj⟩ := List.getElem?_of_mem hx
    have hj' : j < is.length := (List.getElem?_eq_some_iff.mp hj).1
    have := (num j hj').2
    rw [hj] at this
    rw [Option.some.inj this]
    refine b2 j ?_
    have : xs.toArray.size = xs.length := by simp
    omega
theorem St.pushRng {Fz : Addr → Prop} {s : Shared} (hs : St C Fz f m σ s) (lo hi st : Int) (t u v tk : Nat) :
    St C Fz f m (upd σ s.heap.objs.size (.rng lo hi st)) { s with heap := s.heap.push { cls := .type "range", data := .fields #[.int lo t, .int hi u, .int st v] }, toks := tk } ∧ ∀ b, Fz b → (s.heap.push { cls := .type "range", data := .fields #[.int lo t, .int hi u, .int st v] }).get? b = s.heap.get? b :=
  hs.push (o := .rng lo hi st) tk rfl (fun h' e => ⟨t, u, v, e⟩)
theorem CallV_range1 (h : ∀ a, σ a = none → Q (.ref a) m (upd σ a (.rng 0 i 1))) : CallV C f m σ (.type "range") [I i] Q := fun ws hws hA Fz s hs => by
  obtain ⟨u, rfl, hu⟩ := map_er1 hws
  obtain ⟨_, rfl⟩ := er_int hu
  exact call_range_1 ⟨m, _, (hs.pushRng _ _ _ _ _ _ _).1, (hs.pushRng _ _ _ _ _ _ s.toks).2, h _ (Owns.fresh hs).1⟩
theorem CallV_range2 (h : ∀ a, σ a = none → Q (.ref a) m (upd σ a (.rng i j 1))) : CallV C f m σ (.type "range") [I i, I j] Q := fun ws hws hA Fz s hs => by
  obtain ⟨u, w, rfl, hu, hw⟩ := map_er2 hws
  obtain ⟨_, rfl⟩ := er_int hu
  obtain ⟨_, rfl⟩ := er_int hw
  exact call_range_2 ⟨m, _, (hs.pushRng _ _ _ _ _ _ _).1, (hs.pushRng _ _ _ _ _ _ s.toks).2, h _ (Owns.fresh hs).1⟩
theorem CallV_range3 {k : Int} (hk : k ≠ 0) (hb : -1000 ≤ k ∧ k ≤ 1000) (h : ∀ a, σ a = none → Q (.ref a) m (upd σ a (.rng i j k))) : CallV C f m σ (.type "range") [I i, I j, I k] Q := fun ws hws hA Fz s hs => by
  obtain ⟨u, w, x, rfl, hu, hw, hx⟩ := map_er3 hws
  obtain ⟨_, rfl⟩ := er_int hu
  obtain ⟨_, rfl⟩ := er_int hw
  obtain ⟨_, rfl⟩ := er_int hx
  exact call_range_3 hk ⟨m, _, (hs.pushRng _ _ _ _ _ _ _).1, (hs.pushRng _ _ _ _ _ _ s.toks).2, h _ (Owns.fresh hs).1⟩ (Or.inl (PyProof.noPylong_small (by omega)))
theorem CallV_listL {a : Addr} {r : Role} {vs : List Value} (hl : σ a = some (.list r vs)) (hz : vs.length ≤ 1000) (h : ∀ b, σ b = none → Q (.ref b) m (upd σ b (.list .plain vs))) : CallV C f m σ (.type "list") [.ref a] Q := fun ws hws hA Fz s hs => by
  obtain ⟨u, rfl, hu⟩ := map_er1 hws
  rw [er_ref hu]
  obtain ⟨⟨us, n', hg, hw⟩, _⟩ := hs.sto _ _ hl
  have hsz : us.size = vs.length := by rw [← hw]; simp
  refine call_list_seq a (.inl rfl) hg rfl rfl (fun h' c' hk hg' => ?_) (by rw [sizeLine_eq]; omega)
  have q := hs.grow (s' := { s with heap := h' }) (σ' := upd σ s.heap.objs.size (.list .plain vs)) hk (fun b o e => by
    rcases upd_cases e with ⟨rfl, rfl⟩ | ⟨_, e⟩
    · exact .inr ⟨⟨us, c', hg', hw⟩, get?_size_none _⟩
    · exact .inl e) rfl rfl
  exact ⟨m, _, q.1, q.2, h _ (Owns.fresh hs).1⟩
theorem CallV_tupL {a : Addr} {r : Role} {vs : List Value} (hl : σ a = some (.list r vs)) (hz : vs.length ≤ 1000) (h : ∀ b, σ b = none → Q (.ref b) m (upd σ b (.tup vs))) : CallV C f m σ (.type "tuple") [.ref a] Q := fun ws hws hA Fz s hs => by
  obtain ⟨u, rfl, hu⟩ := map_er1 hws
  rw [er_ref hu]
  obtain ⟨us, il, hw⟩ := SK.isList hs hl
  have hsz : us.size = vs.length := by rw [← hw]; simp
  refine call_tuple_list il (fun h' hk => ?_) (by rw [sizeLine_eq]; omega)
  have q1 := hs.kept (h' := h') s.toks hk
  have q := St.push (s := { s with heap := h', toks := s.toks }) q1.1 (ob := { cls := .type "tuple", data := .seq us }) (o := .tup vs) s.toks rfl (fun h'' e => ⟨us, 0, e, hw⟩)
  exact ⟨m, _, q.1, fun b hb => (q.2 b hb).trans (q1.2 b hb), h _ (Owns.fresh q1.1).1⟩
theorem CallV_intI (h : Q (I i) m σ) : CallV C f m σ (.type "int") [I i] Q := fun ws hws hA Fz s hs => by
  obtain ⟨u, rfl, hu⟩ := map_er1 hws
  obtain ⟨_, rfl⟩ := er_int hu
  exact call_int_int ⟨m, σ, hs, fun _ _ => rfl, h⟩
theorem CallV_intB {b : Bool} (h : Q (I (if b then 1 else 0)) m σ) : CallV C f m σ (.type "int") [.bool b] Q := fun ws hws hA Fz s hs => by
  obtain ⟨u, rfl, hu⟩ := map_er1 hws
  rw [er_bool hu]
  exact call_int_bool ⟨m, σ, hs.toks rfl rfl rfl, fun _ _ => rfl, h⟩
theorem CallV_strS {x : Str} (h : Q (S x) m σ) : CallV C f m σ (.type "str") [S x] Q := fun ws hws hA Fz s hs => by
  obtain ⟨u, rfl, hu⟩ := map_er1 hws
  obtain ⟨_, rfl⟩ := er_str hu
  exact P.str_of_str ⟨m, σ, hs, fun _ _ => rfl, h⟩
end

theorem SK.again {k : SK} {It : Addr} {i : Nat} {s : Shared} {A : Around} {E : Value → Shared → Prop} {Q : Value → Shared → Prop} (hi : k.at s.heap It i) (hQ : Q (.ref It) s) : wpAny (model prog C.w) A (pyIter (.ref It)) Q E s := by
  cases k with
  | lst a => exact wpAny_pyIter_listiter hi hQ
  | tpl a => exact wpAny_pyIter_tupleiter hi hQ
  | rng a lo hi' st => exact wpAny_pyIter_rangeiter hi hQ

theorem T_append1 {D : Addr} {r : Role} {vs : List Value} {w : Value} {Q : Value → LM → Store → Prop} (hl : σ D = some (.list r vs)) (hz : vs.length ≤ 1000) (h : Q .none m (upd σ D (.list r (vs ++ [er w])))) : TV C f m σ (call (.builtin "list.append") [.ref D, w]) Q :=
  CallV_append hl hz h [.ref D, w] rfl

theorem comp_loop {x : Str} {px pos : Pos} {elt iter : Expr} {scope : Scope} {k : SK} {items : List Value} {D It : Addr} {Fz : Addr → Prop} {s : Shared} {Inv : Nat → LM → Store → Prop}
    (ha : AOk n f.A) (hst : St C (fun b => Fz b ∨ b = It) f m σ s) (hat : k.at s.heap It 0) (hTop : C.top.get? It = none) (hIt : ¬ Fz It) (hfz : ∀ b, f.env.cells.lookup x = some b → True)
    (hcells : ∀ x c, f.env.cells.lookup x = some c → c ≠ It ∧ (c ∈ f.own ∨ Fz c))
    (hl : ns.lookup x = some .local) (h0 : Inv 0 m σ) (hkeep : ∀ i m₂ σ₂, Inv i m₂ σ₂ → k.holds σ₂ items)
    (hturn : ∀ i v m₂ σ₂, items[i]? = some v → Inv i m₂ σ₂ → TE C f ((x, v) :: m₂) σ₂ elt (fun w m₃ σ₃ => ∃ r vs, σ₃ D = some (.list r vs) ∧ vs.length ≤ 1000 ∧ Inv (i + 1) m₃ (upd σ₃ D (.list r (vs ++ [w]))))) :
    codeAny (model prog C.w) f.A (.compLoop (.ListComp elt [⟨.Name x px, iter, [], 0⟩] scope pos) 0 (.ref It) (.ref D) f.env)
      (fun r s' => ∃ fl m' σ', r = .ok fl ∧ St C Fz f m' σ' s' ∧ (∀ b, Fz b → s'.heap.get? b = s.heap.get? b) ∧ Inv items.length m' σ') s := by
  have hne : ∀ b, Fz b → b ≠ It := fun b hb z => hIt (z ▸ hb)
  refine codeAny_compLoop_list
    (fun N s' => ∃ i m₂ σ₂, N = items.length + 1 - i ∧ i ≤ items.length ∧ Inv i m₂ σ₂ ∧ St C (fun b => Fz b ∨ b = It) f m₂ σ₂ s' ∧ k.at s'.heap It i ∧ ∀ b, Fz b → s'.heap.get? b = s.heap.get? b) ?_ (items.length + 1)
    ⟨0, m, σ, rfl, Nat.zero_le _, h0, hst, hat, fun b hb => rfl⟩
  rintro N s' ⟨i, m₂, σ₂, rfl, hi, hinv, h2, hat2, k2⟩
  have hno : ∀ {α : Type} {t : Sem α} {P : α → Shared → Prop} {s'' : Shared} {E' : Value → Shared → Prop}, wpAny (model prog C.w) f.A t P (fun _ _ => False) s'' → wpAny (model prog C.w) f.A t P E' s'' := fun hw => wpAny_mono hw (fun _ _ x => x) fun _ _ x => x.elim
  by_cases hlt : i < items.length
  · refine hno (SK.next (v := items[i]) h2 (hkeep i m₂ σ₂ hinv) hat2 (by simp [hlt]) fun u h' tk hu hat' hsame => ?_)
    have h3 : St C (fun b => Fz b ∨ b = It) f m₂ σ₂ { s' with heap := h', toks := tk } :=
      h2.touch (.inr rfl) hTop (fun b o hb e => (hsame b hb).trans e) (fun b hb => ⟨hb, fun z => z ▸ hat'.ex⟩) (fun x c hc => ⟨(hcells x c hc).1, (hcells x c hc).2.imp id .inl⟩) rfl rfl
    refine hno (wpAny_assign_Name (T.run (T_store (Q := fun _ m' σ' => m' = (x, er u) :: m₂ ∧ σ' = σ₂) ⟨rfl, rfl⟩ hl) ha h3 fun _ m₄ σ₄ s₄ h4 k4 q4 => ?_))
    obtain ⟨rfl, rfl⟩ := q4
    rw [hu] at h4
    refine hno (T.run (hturn i items[i] m₂ σ₄ (by simp [hlt]) hinv) ha h4 fun w m₅ σ₅ s₅ h5 k5 q5 => ?_)
    obtain ⟨r, vs, hD, hz, q5⟩ := q5
    refine hno (T.run (T_append1 (Q := fun _ m' σ' => Inv (i + 1) m' σ') hD hz q5) ha h5 fun _ m₆ σ₆ s₆ h6 k6 q6 => ?_)
    have hk6 : ∀ b, Fz b → s₆.heap.get? b = s.heap.get? b := fun b hb => ((k6 b (.inl hb)).trans ((k5 b (.inl hb)).trans (k4 b (.inl hb)))).trans ((hsame b (hne b hb)).trans (k2 b hb))
    have hat6 : k.at s₆.heap It (i + 1) := hat'.same ((k6 It (.inr rfl)).trans ((k5 It (.inr rfl)).trans (k4 It (.inr rfl))))
    exact ⟨items.length + 1 - (i + 1), by omega, i + 1, m₆, σ₆, rfl, hlt, q6, h6, hat6, hk6⟩
  · have hi' : i = items.length := by omega
    refine hno (SK.last ha.2.2 h2 (hkeep i m₂ σ₂ hinv) hat2 hi' fun h' hk' => ?_)
    refine ⟨.next, m₂, σ₂, rfl, ?_, fun b hb => ?_, hi' ▸ hinv⟩
    · exact h2.touch (.inr rfl) hTop hk' (fun b hb => ⟨.inl hb, fun z => absurd z (hne b hb)⟩) hcells rfl rfl
    · obtain ⟨⟨o, ho⟩, _⟩ := h2.fz b (.inl hb)
      exact ((hk' b o (hne b hb) ho).trans ho.symm).trans (k2 b hb)
end
end Mine
end
section
open PySem PySem.W PySem.Calls PyProof.Rows
namespace Mine

noncomputable def relabelNs (ns nm : List (Str × NameKind)) : List (Str × NameKind) := nm.map fun p => if (p.2 == .free && ns.lookup p.1 == some .cell) = true then (p.1, .cell) else p

theorem forIn_yield_fold {α β : Type} {l : List α} {f : α → β → Sem (ForInStep β)} {g : α → β → β} (c : β) (h : ∀ x ∈ l, ∀ c, f x c = pure (.yield (g x c))) : forIn l c f = pure (l.foldl (fun c x => g x c) c) := by
  induction l generalizing c with
  | nil => rfl
  | cons x l ih =>
    rw [List.forIn_cons, h x List.mem_cons_self, pure_bind]
    exact ih _ fun y hy => h y (List.mem_cons_of_mem _ hy)
noncomputable def clStep (env : Env) (x : Str × NameKind) (c : List (Str × Addr)) : List (Str × Addr) := if (x.2 == .free) = true then (x.1, (env.cells.lookup x.1).getD 0) :: c else c
theorem closure_of {scope : Scope} {env : Env} (h : ∀ x ∈ scope.names, x.2 = .free → ∃ c, env.cells.lookup x.1 = some c) : closureFor scope env = pure (scope.names.foldl (fun c x => clStep env x c) []) := by
  simp only [closureFor]
  rw [forIn_yield_fold (g := clStep env) [] (fun x hx c => by
    obtain ⟨y, kind⟩ := x
    by_cases hk : kind = .free
    · subst hk
      obtain ⟨a, ha⟩ := h _ hx rfl
      have e : cellOf env y = pure a := by unfold cellOf; rw [show env.cells.lookup y = some a from ha]
      simp only [beq_self_eq_true, if_true, e, clStep, show env.cells.lookup y = some a from ha, Option.getD_some]
      rfl
    · have hb : (kind == NameKind.free) = false := by simpa using hk
      simp only [hb, Bool.false_eq_true, if_false, clStep])]
  rfl
theorem clStep_lookup (env : Env) : ∀ (nm : List (Str × NameKind)) (acc : List (Str × Addr)), (∀ x ∈ nm, x.2 = .free → ∃ c, env.cells.lookup x.1 = some c) → (∀ y c, acc.lookup y = some c → env.cells.lookup y = some c) →
    (∀ y c, (nm.foldl (fun c x => clStep env x c) acc).lookup y = some c → env.cells.lookup y = some c) ∧ (∀ y, ((y, NameKind.free) ∈ nm ∨ (acc.lookup y).isSome = true) → ((nm.foldl (fun c x => clStep env x c) acc).lookup y).isSome = true)
  | [], acc, _, ha => ⟨ha, fun y hy => hy.elim (fun q => nomatch q) id⟩
  | (x, k) :: r, acc, h, ha => by
    have hstep : ∀ y c, (clStep env (x, k) acc).lookup y = some c → env.cells.lookup y = some c := fun y c hy => by
      unfold clStep at hy
      split at hy
      · rename_i hk
        obtain ⟨a, hx⟩ := h _ List.mem_cons_self (by simpa using hk)
        rw [hx, Option.getD_some, List.lookup_cons] at hy
        by_cases z : (y == x) = true
        · have := eq_of_beq z; subst this; simp at hy; subst hy; exact hx
        · simp only [z] at hy; exact ha y c hy
      · exact ha y c hy
    obtain ⟨i1, i2⟩ := clStep_lookup env r (clStep env (x, k) acc) (fun z hz => h z (List.mem_cons_of_mem _ hz)) hstep
    refine ⟨i1, fun y hy => i2 y ?_⟩
    have key : (clStep env (x, k) acc).lookup y = none → (acc.lookup y).isSome = true → False := fun q hs => by
      unfold clStep at q
      split at q
      · rw [List.lookup_cons] at q
        by_cases z : (y == x) = true
        · simp [z] at q
        · simp only [z] at q; rw [q] at hs; cases hs
      · rw [q] at hs; cases hs
    rcases hy with hy | hy
    · rcases List.mem_cons.mp hy with e | hy
      · obtain ⟨rfl, rfl⟩ := Prod.mk.inj e
        right
        unfold clStep
        simp
      · exact .inl hy
    · right
      cases q : (clStep env (x, k) acc).lookup y with
      | none => exact (key q hy).elim
      | some c => rfl

section
variable {prog : Program} {K : Params → Frag} {n : Nat} {ns : List (Str × NameKind)}
variable {C : Cx prog K} {f : Fx n ns} {m : LM} {σ : Store}

noncomputable def cellsOf (ns nm : List (Str × NameKind)) (m : LM) : LM := m.filter fun p => (relabelNs ns nm).lookup p.1 == some .cell
theorem lookup_cellsOf {ns nm : List (Str × NameKind)} {m : LM} {y : Str} {v : Value} (h : (cellsOf ns nm m).lookup y = some v) : m.lookup y = some v ∧ (relabelNs ns nm).lookup y = some .cell := by
  unfold cellsOf at h
  induction m with
  | nil => cases h
  | cons p r ih =>
    obtain ⟨k, w⟩ := p
    rw [List.filter_cons] at h
    split at h
    · rename_i hk
      rw [List.lookup_cons] at h ⊢
      by_cases z : (y == k) = true
      · have := eq_of_beq z; subst this
        simp only [z] at h ⊢
        exact ⟨h, by simpa using hk⟩
      · simp only [z] at h ⊢; exact ih h
    · rename_i hk
      have hi := ih h
      refine ⟨?_, hi.2⟩
      rw [List.lookup_cons]
      by_cases z : (y == k) = true
      · have := eq_of_beq z; subst this
        exact absurd (by simp [hi.2]) hk
      · simp only [z]; exact hi.1

noncomputable def CompCode (C : Cx prog K) (fc : Fx n ns) (mc : LM) (σ : Store) (e : Expr) (k : SK) (D : Addr) (R : Store → Prop) : Prop :=
  AOk n fc.A → ∀ Fz s It, St C (fun b => Fz b ∨ b = It) fc mc σ s → k.at s.heap It 0 → C.top.get? It = none → ¬ Fz It → (∀ x c, fc.env.cells.lookup x = some c → c ≠ It ∧ (c ∈ fc.own ∨ Fz c)) →
    codeAny (model prog C.w) fc.A (.compLoop e 0 (.ref It) (.ref D) fc.env) (fun r s' => ∃ fl m' σ', r = .ok fl ∧ St C Fz fc m' σ' s' ∧ (∀ b, Fz b → s'.heap.get? b = s.heap.get? b) ∧ R σ') s

theorem lookup_mem {α : Type} {l : List (Str × α)} {x : Str} {k : α} (h : l.lookup x = some k) : (x, k) ∈ l := by
  induction l with
  | nil => cases h
  | cons p r ih =>
    obtain ⟨y, w⟩ := p
    rw [List.lookup_cons] at h
    by_cases z : (x == y) = true
    · have := eq_of_beq z; subst this; simp at h; subst h; exact List.mem_cons_self
    · simp only [z] at h; exact List.mem_cons_of_mem _ (ih h)
theorem relabel_cell {nm : List (Str × NameKind)} {y : Str} (hn : (nm.all fun x => x.2 != .cell) = true) (h : (relabelNs ns nm).lookup y = some .cell) : (y, NameKind.free) ∈ nm ∧ ns.lookup y = some .cell := by
  have hm := lookup_mem h
  unfold relabelNs at hm
  obtain ⟨p, hp, e⟩ := List.mem_map.mp hm
  obtain ⟨x, k⟩ := p
  split at e
  · rename_i hk
    obtain ⟨rfl, _⟩ := Prod.mk.inj e
    simp only [Bool.and_eq_true, beq_iff_eq] at hk
    obtain ⟨rfl, hk2⟩ := hk
    exact ⟨hp, hk2⟩
  · obtain ⟨rfl, rfl⟩ := Prod.mk.inj e
    have := List.all_eq_true.mp hn _ hp
    simp at this

structure ScopeOk (ns : List (Str × NameKind)) (scope : Scope) : Prop where
  kind : scope.kind = .function
  nocell : (scope.names.all fun x => x.2 != .cell) = true
  locals : (scope.names.all fun x => x.2 != .local || scope.names.lookup x.1 == some .local) = true
  free : (scope.names.all fun x => x.2 != .free || ns.lookup x.1 == some .cell) = true

theorem relabel_names (scope : Scope) (f : Fx n ns) : (relabel scope f.env).names = relabelNs ns scope.names := by
  unfold relabel relabelNs
  refine List.map_congr_left fun p hp => ?_
  obtain ⟨y, k⟩ := p
  simp only [f.hk, kind_def, f.hns, beq_self_eq_true, Bool.and_true]

theorem T_comprehension {elt iter target : Expr} {ifs : List Expr} {rest : List Comprehension} {scope : Scope} {pos : Pos} {Q : Value → LM → Store → Prop} (ok : ScopeOk ns scope)
    (hfree : ∀ y, (y, NameKind.free) ∈ scope.names → ∃ v, m.lookup y = some v)
    (h : TE C f m σ iter (fun v m₁ σ₁ => m₁ = m ∧ ∃ k items, v = SK.val k ∧ k.holds σ₁ items ∧ ∀ D, σ₁ D = none → ∀ fc : Fx n (relabelNs ns scope.names),
      CompCode C fc (cellsOf ns scope.names m) (upd σ₁ D (.list .plain [])) (.ListComp elt (⟨target, iter, ifs, 0⟩ :: rest) scope pos) k D (fun σ' => Q (.ref D) m σ')))
    (hs : ∀ x, foldedSetIterable iter f.env x = pure x := by intro _; rfl) :
    TE C f m σ (.ListComp elt (⟨target, iter, ifs, 0⟩ :: rest) scope pos) Q := fun ha Fz s hst => by
  have hcl : ∀ x ∈ scope.names, x.2 = .free → ∃ c, f.env.cells.lookup x.1 = some c := fun x hx hk => by
    obtain ⟨y, k⟩ := x
    simp only at hk; subst hk
    obtain ⟨v, hv⟩ := hfree y hx
    have := List.all_eq_true.mp ok.free _ hx
    have hc : f.env.kindOf y = some .cell := f.kind_of (by simpa using this)
    obtain ⟨c, u, h1, _⟩ := hst.loc.cells y v hv (.inl hc)
    exact ⟨c, h1⟩
  rw [eval_ListComp]
  generalize hclv : scope.names.foldl (fun c x => clStep f.env x c) [] = cl
  have hclos : closureFor scope f.env = pure cl := by rw [← hclv]; exact closure_of hcl
  obtain ⟨cl1, cl2⟩ := clStep_lookup f.env scope.names [] hcl (fun y c q => by cases q)
  rw [hclv] at cl1 cl2
  refine wpAny_comprehension_free (use := none) rfl hs hclos ok.kind (fun x hx hl => ?_) (h.run ha hst fun v m₁ σ₁ s₁ h1 k1 q1 => ?_)
  · have := List.all_eq_true.mp ok.locals x hx
    simp only [hl, bne_self_eq_false, Bool.false_or, beq_iff_eq] at this
    exact this
  obtain ⟨rfl, k, items, e, hh, q1⟩ := q1
  have e' : v = k.val := by cases k <;> exact er_ref e
  subst e'
  refine SK.iter h1 hh fun ob hfo hat => ?_
  generalize hIt : s₁.heap.objs.size = It at *
  have g0 := h1.grow (s' := { s₁ with heap := s₁.heap.push ob }) (σ' := σ₁) (fun b o e => Heap.get?_push_of_some _ e) (fun a o e => .inl e) rfl rfl
  have hfr := Owns.fresh h1
  rw [hIt] at hfr
  have hTop : C.top.get? It = none := by
    cases z : C.top.get? It with
    | none => rfl
    | some o => exact absurd (Heap.lt_size (h1.keep _ _ z)) (by rw [hIt]; exact Nat.lt_irrefl _)
  refine wpAny_newObj_type ?_
  generalize hs2 : ({ s₁ with heap := s₁.heap.push ob } : Shared) = s₂ at *
  have g1 := g0.1.push (ob := { cls := .type "list", data := .seq ([] : List Value).toArray }) (o := .list .plain []) s₂.toks rfl (fun h' e => ⟨_, _, e, rfl⟩)
  have hfr2 := Owns.fresh g0.1
  generalize hD : s₂.heap.objs.size = D at *
  have hItlt : It < D := by rw [← hD, ← hs2, ← hIt]; simp [Heap.size_push]
  have hTopD : C.top.get? D = none := by
    cases z : C.top.get? D with
    | none => rfl
    | some o => exact absurd (Heap.lt_size (g0.1.keep _ _ z)) (by rw [hD]; exact Nat.lt_irrefl _)
  generalize hs3 : ({ s₂ with heap := s₂.heap.push { cls := .type "list", dict := none, data := .seq ([] : List Value).toArray } } : Shared) = s₃ at *
  have g1' : St C Fz f m₁ (upd σ₁ D (.list .plain [])) s₃ := g1.1
  have k3 : ∀ b, Fz b → s₃.heap.get? b = s.heap.get? b := fun b hb => by rw [← hs3]; exact (g1.2 b hb).trans ((g0.2 b hb).trans (k1 b hb))
  have hat3 : k.at s₃.heap It 0 := by
    rw [← hs3]
    obtain ⟨o, ho⟩ := hat.ex
    rw [← hs2]
    exact hat.same ((Heap.get?_push_of_some _ ho).trans ho.symm)
  have hfr3 := Owns.fresh g1'
  refine wpAny_newFunctionEnv (fun x hx => ?_) (fun x hx => by cases hx) (fun h' hns hsb => ?_) ok.kind
  · have := List.all_eq_true.mp ok.nocell x hx
    simpa using this
  generalize hL : s₃.heap.objs.size = L at *
  have up : ∀ b o, s₃.heap.get? b = some o → h'.get? b = some o ∧ b ≠ L := fun b o e => by
    have hb : b ≠ L := by rw [← hL]; exact Nat.ne_of_lt (Heap.lt_size e)
    exact ⟨(hsb.2 b hb).trans (Heap.get?_push_of_some _ e), hb⟩
  have hTopL : C.top.get? L = none := by
    cases z : C.top.get? L with
    | none => rfl
    | some o => exact absurd (Heap.lt_size (g1'.keep _ _ z)) (by rw [hL]; exact Nat.lt_irrefl _)
  let fc : Fx n (relabelNs ns scope.names) := ⟨f.A, compEnvC scope cl L f.env, [L], relabel_names scope f, ok.kind, f.hg, f.hb⟩
  have hItF : ¬ (Fz It ∨ It ∈ f.own) := fun q => q.elim hfr.2.1 hfr.2.2
  obtain ⟨oL, eL, epL, hoL, hdL, hrL⟩ := hns
  have hstc : St C (fun b => (Fz b ∨ b ∈ f.own) ∨ b = It) fc (cellsOf ns scope.names m₁) (upd σ₁ D (.list .plain [])) { s₃ with heap := h', toks := s₃.toks + ([] : List (Str × Value)).length } := by
    refine ⟨fun b o e => (up b o (g1'.keep b o e)).1, (by show C.top.objs.size ≤ L; rw [← hL]; exact C.sizes s₃.heap g1'.keep), ⟨⟨_, ⟨oL, eL, epL, hoL, hdL, hrL⟩, fun x v hv hkx => ?_⟩, fun x v hv _ => ?_, fun x c hc => ?_⟩, fun a o e => ?_, fun b hb => ?_, g1'.gens, g1'.os, fun b hb => ?_, List.mem_singleton.mpr rfl, fun x c hc => ?_⟩
    · have := (lookup_cellsOf hv).2
      have hk2 : (relabelNs ns scope.names).lookup x = some .local := by rw [← relabel_names scope f]; exact hkx
      rw [this] at hk2; cases hk2
    · obtain ⟨hv1, hv2⟩ := lookup_cellsOf hv
      obtain ⟨hm, hk⟩ := relabel_cell ok.nocell hv2
      obtain ⟨c, u, h1', ⟨o, ho, hdo⟩, hu⟩ := g1'.loc.cells x v hv1 (.inl (f.kind_of hk))
      have hs := cl2 x (.inl hm)
      cases q : cl.lookup x with
      | none => rw [q] at hs; cases hs
      | some c' =>
        have := cl1 x c' q
        rw [h1'] at this
        cases this
        exact ⟨c, u, q, ⟨o, (up c o ho).1, hdo⟩, hu⟩
    · obtain ⟨v, o, ho, hdo⟩ := g1'.loc.cellEx x c (cl1 x c hc)
      exact ⟨v, o, (up c o ho).1, hdo⟩
    · obtain ⟨c1, c2, c3, c4⟩ := g1'.sto a o e
      obtain ⟨ob', hob⟩ := c1.some
      obtain ⟨u1, u2⟩ := up a ob' hob
      refine ⟨c1.same (u1.trans hob.symm), c2, fun q => ?_, fun q => u2 (List.mem_singleton.mp q)⟩
      rcases q with (q | q) | rfl
      · exact c3 q
      · exact c4 q
      · rcases upd_cases e with ⟨rfl, _⟩ | ⟨_, e⟩
        · exact absurd hItlt (Nat.lt_irrefl _)
        · rw [hfr.1] at e; cases e
    · rcases hb with (hb | hb) | rfl
      · obtain ⟨⟨o, ho⟩, _⟩ := g1'.fz b hb
        exact ⟨⟨o, (up b o ho).1⟩, fun q => (up b o ho).2 (List.mem_singleton.mp q)⟩
      · obtain ⟨_, o, ho⟩ := g1'.own b hb
        exact ⟨⟨o, (up b o ho).1⟩, fun q => (up b o ho).2 (List.mem_singleton.mp q)⟩
      · obtain ⟨o, ho⟩ := hat3.ex
        exact ⟨⟨o, (up b o ho).1⟩, fun q => (up b o ho).2 (List.mem_singleton.mp q)⟩
    · rw [List.mem_singleton.mp hb]
      exact ⟨hTopL, oL, hoL⟩
    · have := cl1 x c hc
      exact .inr (.inl (g1'.cellsIn x c this).symm)
  have hatc : k.at h' It 0 := by
    obtain ⟨o, ho⟩ := hat3.ex
    exact hat3.same ((up It o ho).1.trans ho.symm)
  have run := q1 D hfr2.1 fc ha (fun b => Fz b ∨ b ∈ f.own) _ It hstc hatc hTop hItF (fun x c hc => by
    have := cl1 x c hc
    have hin := (g1'.cellsIn x c this).symm
    exact ⟨fun z => hItF (z ▸ hin), .inr hin⟩)
  have fin : codeAny (model prog C.w) f.A (.compLoop (.ListComp elt (⟨target, iter, ifs, 0⟩ :: rest) scope pos) 0 (.ref It) (.ref D) (compEnvC scope cl L f.env))
      (compPost (model prog C.w) f.A (fun _ _ => False) none (fun v s' => ∃ m' σ', St C Fz f m' σ' s' ∧ (∀ b, Fz b → s'.heap.get? b = s.heap.get? b) ∧ Q (er v) m' σ') (.ref D) L) { s₃ with heap := h', toks := s₃.toks + ([] : List (Str × Value)).length } := by
    refine codeAny_mono run fun r s' z => ?_
    obtain ⟨fl, m', σ', rfl, h2, k2, q2⟩ := z
    obtain ⟨ml, hml, _⟩ := h2.loc.ns
    refine ⟨ml, hml, fun h'' hs'' => ⟨m₁, σ', ?_, fun b hb => ?_, q2⟩⟩
    · have neL : ∀ b o, s₃.heap.get? b = some o → (Fz b ∨ b ∈ f.own) → h''.get? b = some o := fun b o e hb => by
        obtain ⟨u1, u2⟩ := up b o e
        exact (hs''.2 b u2).trans ((k2 b hb).trans u1)
      refine ⟨fun b o e => ?_, g1'.above, ?_, fun a o e => ?_, fun b hb => ?_, h2.gens, h2.os, fun b hb => ?_, g1'.loWn, g1'.cellsIn⟩
      · exact (hs''.2 b (fun z => by subst z; rw [hTopL] at e; cases e)).trans (h2.keep b o e)
      · refine g1'.loc.same ?_ fun x c hc => ?_
        · obtain ⟨_, o, ho⟩ := g1'.own _ g1'.loWn
          exact (neL _ o ho (.inr g1'.loWn)).trans ho.symm
        · have hin := g1'.cellsIn x c hc
          rcases hin with hin | hin
          · obtain ⟨_, o, ho⟩ := g1'.own _ hin; exact (neL _ o ho (.inr hin)).trans ho.symm
          · obtain ⟨⟨o, ho⟩, _⟩ := g1'.fz _ hin; exact (neL _ o ho (.inl hin)).trans ho.symm
      · obtain ⟨c1, c2, c3, c4⟩ := h2.sto a o e
        exact ⟨c1.same (hs''.2 a fun z => c4 (List.mem_singleton.mpr z)), c2, fun q => c3 (.inl q), fun q => c3 (.inr q)⟩
      · obtain ⟨⟨o, ho⟩, hn⟩ := g1'.fz b hb
        exact ⟨⟨o, neL b o ho (.inl hb)⟩, hn⟩
      · obtain ⟨ht, o, ho⟩ := g1'.own b hb
        exact ⟨ht, o, neL b o ho (.inr hb)⟩
    · obtain ⟨⟨o, ho⟩, _⟩ := g1'.fz b hb
      obtain ⟨u1, u2⟩ := up b o ho
      exact (hs''.2 b u2).trans ((k2 b (.inl hb)).trans ((u1.trans ho.symm).trans (k3 b hb)))
  exact codeAny_compStart_list fin (SK.again hatc fin)

theorem TE_ListComp {elt iter : Expr} {x : Str} {px pos : Pos} {scope : Scope} {Q : Value → LM → Store → Prop} (ok : ScopeOk ns scope)
    (hfree : ∀ y, (y, NameKind.free) ∈ scope.names → ∃ v, m.lookup y = some v) (hx : (relabelNs ns scope.names).lookup x = some .local)
    (h : TE C f m σ iter (fun v m₁ σ₁ => m₁ = m ∧ ∃ k items, v = SK.val k ∧ k.holds σ₁ items ∧ ∀ D, σ₁ D = none → ∃ Inv : Nat → LM → Store → Prop,
      Inv 0 (cellsOf ns scope.names m) (upd σ₁ D (.list .plain [])) ∧ (∀ i m₂ σ₂, Inv i m₂ σ₂ → k.holds σ₂ items) ∧
      (∀ (fc : Fx n (relabelNs ns scope.names)) i v m₂ σ₂, items[i]? = some v → Inv i m₂ σ₂ → TE C fc ((x, v) :: m₂) σ₂ elt (fun w m₃ σ₃ => ∃ r vs, σ₃ D = some (.list r vs) ∧ vs.length ≤ 1000 ∧ Inv (i + 1) m₃ (upd σ₃ D (.list r (vs ++ [w]))))) ∧
      (∀ m₂ σ₂, Inv items.length m₂ σ₂ → Q (.ref D) m σ₂)))
    (hs : ∀ x, foldedSetIterable iter f.env x = pure x := by intro _; rfl) :
    TE C f m σ (.ListComp elt [⟨.Name x px, iter, [], 0⟩] scope pos) Q := by
  refine T_comprehension ok hfree (T.mono h fun v m₁ σ₁ q => ?_) hs
  obtain ⟨e, k, items, ev, hh, q⟩ := q
  refine ⟨e, k, items, ev, hh, fun D hD fc ha Fz s It hst hat hTop hIt hcells => ?_⟩
  obtain ⟨Inv, h0, hkeep, hturn, hend⟩ := q D hD
  refine codeAny_mono (comp_loop ha hst hat hTop hIt (fun _ _ => trivial) hcells hx h0 hkeep (hturn fc)) fun r s' z => ?_
  obtain ⟨fl, m', σ', rfl, h2, k2, q2⟩ := z
  exact ⟨fl, m', σ', rfl, h2, k2, hend _ _ q2⟩
end
end Mine
end
section
open PySem PySem.W PySem.Calls PyProof.Rows
namespace Mine

noncomputable def Ext (σ σ' : Store) : Prop := ∀ a o, σ a = some o → σ' a = some o
noncomputable def ExtB (D : Addr) (σ σ' : Store) : Prop := ∀ a o, a ≠ D → σ a = some o → σ' a = some o
theorem Ext.refl (σ : Store) : Ext σ σ := fun _ _ h => h
theorem Ext.trans {a b c : Store} (h : Ext a b) (k : Ext b c) : Ext a c := fun x o e => k x o (h x o e)
theorem Ext.new {σ : Store} {a : Addr} {o : AObj} (h : σ a = none) : Ext σ (upd σ a o) := fun b p e => by
  rw [upd_ne (fun z => by subst z; rw [h] at e; cases e)]; exact e
theorem Ext.thenNew {σ σ' : Store} {a : Addr} {o : AObj} (h : Ext σ σ') (hn : σ' a = none) : Ext σ (upd σ' a o) := h.trans (Ext.new hn)
theorem Ext.own {σ σ' : Store} {a : Addr} {o : AObj} (h : Ext σ σ') (hn : σ a = none) : Ext σ (upd σ' a o) := fun b p e => by
  rw [upd_ne (fun z => by subst z; rw [hn] at e; cases e)]; exact h b p e
theorem Ext.toB {σ σ' : Store} (D : Addr) (h : Ext σ σ') : ExtB D σ σ' := fun a o _ e => h a o e
theorem ExtB.trans {D : Addr} {a b c : Store} (h : ExtB D a b) (k : ExtB D b c) : ExtB D a c := fun x o n e => k x o n (h x o n e)
theorem ExtB.at {σ : Store} {D : Addr} {o : AObj} : ExtB D σ (upd σ D o) := fun b p n e => by rw [upd_ne n]; exact e
theorem ExtB.toExt {D : Addr} {σ σ' : Store} (h : ExtB D σ σ') (hn : σ D = none) : Ext σ σ' := fun a o e => h a o (fun z => by subst z; rw [hn] at e; cases e) e
theorem ne_new {σ : Store} {a b : Addr} {o : AObj} (ha : σ a = some o) (hb : σ b = none) : a ≠ b := fun z => by subst z; rw [ha] at hb; cases hb
theorem ne_kind {σ : Store} {a b : Addr} {o p : AObj} (ha : σ a = some o) (hb : σ b = some p) (h : o ≠ p) : a ≠ b := fun z => h (by subst z; rw [ha] at hb; exact Option.some.inj hb)
theorem none_of {σ σ' : Store} {a : Addr} (h : Ext σ σ') (hn : σ' a = none) : σ a = none := by
  cases q : σ a with
  | none => rfl
  | some o => rw [h a o q] at hn; cases hn

section
variable {prog : Program} {K : Params → Frag} {n : Nat} {ns : List (Str × NameKind)}
variable {C : Cx prog K} {f : Fx n ns} {m : LM} {σ : Store}

theorem Spec.mono {fv : Value} {args : List Value} {Q Q' : Value → Store → Prop} (h : Spec C n fv args σ Q) (hq : ∀ v σ', Q v σ' → Q' v σ') : Spec C n fv args σ Q' :=
  fun A ha Fz s ws hw hO => codeAny_mono (h A ha Fz s ws hw hO) fun _ _ ⟨v, σ', e, a, b, c⟩ => ⟨v, σ', e, a, b, hq _ _ c⟩

theorem TE.mono {e : Expr} {Q Q' : Value → LM → Store → Prop} (h : TE C f m σ e Q) (hq : ∀ v m σ, Q v m σ → Q' v m σ) : TE C f m σ e Q' := T.mono h fun v => hq (er v)
theorem TX.mono {t : Sem Flow} {Q Q' : Flow → LM → Store → Prop} (h : TX C f m σ t Q) (hq : ∀ fl m σ, Q fl m σ → Q' fl m σ) : TX C f m σ t Q' := T.mono h fun fl => hq (erF fl)

noncomputable def retag (σ : Store) (a : Addr) (r : Role) : Store := match σ a with
  | some (.list _ vs) => upd σ a (.list r vs)
  | _ => σ
theorem St.retag {Fz : Addr → Prop} {s : Shared} {a : Addr} {r r' : Role} {vs : List Value} (h : St C Fz f m σ s) (ha : σ a = some (.list r vs)) : St C Fz f m (upd σ a (.list r' vs)) s :=
  ⟨h.keep, h.above, h.loc, fun b o e => by
    rcases upd_cases e with ⟨rfl, rfl⟩ | ⟨_, e⟩
    · have q := h.sto _ _ ha
      exact ⟨q.1, q.2⟩
    · exact h.sto b o e, h.fz, h.gens, h.os, h.own, h.loWn, h.cellsIn⟩
theorem T_retag {α : Type} {t : Sem α} {a : Addr} {r r' : Role} {vs : List Value} {Q : α → LM → Store → Prop} (ha : σ a = some (.list r vs)) (h : T C f m (upd σ a (.list r' vs)) t Q) : T C f m σ t Q :=
  fun hA Fz s hs => h hA Fz s (hs.retag ha)
theorem T_post {α : Type} {t : Sem α} {Q Q' : α → LM → Store → Prop} (h : T C f m σ t Q) (hq : ∀ v m' σ', Q v m' σ' → Q' v m' σ' ∨ ∃ a r r' vs, σ' a = some (.list r vs) ∧ Q' v m' (upd σ' a (.list r' vs))) : T C f m σ t Q' :=
  fun hA Fz s hs => wpAny_mono (h hA Fz s hs) (fun v s' ⟨m', σ', h1, k1, q1⟩ => by
    rcases hq _ _ _ q1 with q | ⟨a, r, r', vs, ha, q⟩
    · exact ⟨m', σ', h1, k1, q⟩
    · exact ⟨m', _, h1.retag ha, k1, q⟩) fun _ _ x => x

theorem lookup_cons_ne {x y : Str} {v : Value} {m : LM} (h : y ≠ x) : ((x, v) :: m).lookup y = m.lookup y := by rw [lookup_put, if_neg h]
theorem lookup_cons_eq {x : Str} {v : Value} {m : LM} : ((x, v) :: m).lookup x = some v := by rw [lookup_put, if_pos rfl]

theorem TE_ListMap {elt iter : Expr} {x : Str} {px pos : Pos} {scope : Scope} {Q : Value → LM → Store → Prop} (P : Addr → Nat → Value → Store → Prop) (N : Nat) (hN : N ≤ 1000) (ok : ScopeOk ns scope)
    (hfree : ∀ y, (y, NameKind.free) ∈ scope.names → ∃ v, m.lookup y = some v) (hx : (relabelNs ns scope.names).lookup x = some .local)
    (hP : ∀ D i w σ₁ σ₂, ExtB D σ₁ σ₂ → P D i w σ₁ → P D i w σ₂)
    (h : TE C f m σ iter (fun v m₁ σ₁ => m₁ = m ∧ Ext σ σ₁ ∧ ∃ k items, v = SK.val k ∧ k.holds σ₁ items ∧ items.length = N ∧ ∀ D, σ₁ D = none →
      (∀ (fc : Fx n (relabelNs ns scope.names)) i v m₂ σ₂, items[i]? = some v → (∀ y, y ≠ x → m₂.lookup y = (cellsOf ns scope.names m).lookup y) → Ext σ₁ σ₂ → (∃ vs, σ₂ D = some (.list .plain vs)) →
        TE C fc ((x, v) :: m₂) σ₂ elt (fun w m₃ σ₃ => m₃ = (x, v) :: m₂ ∧ Ext σ₂ σ₃ ∧ P D i w σ₃)) ∧
      (∀ σ₂ ws, Ext σ₁ σ₂ → σ₂ D = some (.list .plain ws) → ws.length = N → (∀ i w, ws[i]? = some w → P D i w σ₂) → Q (.ref D) m σ₂)))
    (hs : ∀ x, foldedSetIterable iter f.env x = pure x := by intro _; rfl) :
    TE C f m σ (.ListComp elt [⟨.Name x px, iter, [], 0⟩] scope pos) Q := by
  refine TE_ListComp ok hfree hx (TE.mono h fun v m₁ σ₁ q => ?_) hs
  obtain ⟨rfl, hE, k, items, rfl, hk, hl, q⟩ := q
  refine ⟨rfl, k, items, rfl, hk, fun D hD => ?_⟩
  obtain ⟨q1, q2⟩ := q D hD
  refine ⟨fun i m₂ σ₂ => (∀ y, y ≠ x → m₂.lookup y = (cellsOf ns scope.names m₁).lookup y) ∧ Ext σ₁ σ₂ ∧ ∃ ws, σ₂ D = some (.list .plain ws) ∧ ws.length = i ∧ i ≤ items.length ∧ ∀ j w, ws[j]? = some w → P D j w σ₂, ?_, ?_, ?_, ?_⟩
  · exact ⟨fun _ _ => rfl, Ext.new hD, [], upd_self .., rfl, Nat.zero_le _, fun j w e => by simp at e⟩
  · rintro i m₂ σ₂ ⟨_, h2, _⟩
    cases k with
    | lst a => obtain ⟨r, e⟩ := hk; exact ⟨r, h2 _ _ e⟩
    | tpl a => exact h2 _ _ hk
    | rng a lo hi st => exact ⟨h2 _ _ hk.1, hk.2⟩
  · rintro fc i v m₂ σ₂ hv ⟨h1, h2, ws, hw, hwl, hil, hPw⟩
    refine TE.mono (q1 fc i v m₂ σ₂ hv h1 h2 ⟨ws, hw⟩) fun w m₃ σ₃ ⟨e, hE3, hp⟩ => ?_
    subst e
    have hwD := hE3 _ _ hw
    have hlt : i < items.length := (List.getElem?_eq_some_iff.mp hv).1
    refine ⟨.plain, ws, hwD, by omega, fun y hy => ?_, (h2.trans hE3).own hD, ws ++ [w], upd_self .., by simp [hwl], by omega, fun j u e => ?_⟩
    · rw [lookup_cons_ne hy]; exact h1 y hy
    · rw [List.getElem?_append] at e
      split at e
      · exact hP D j u _ _ ((hE3.toB D).trans ExtB.at) (hPw j u e)
      · rename_i hj
        have : j = i := by
          rw [List.getElem?_singleton] at e
          split at e
          · omega
          · cases e
        subst this
        have : w = u := by
          rw [show j - ws.length = 0 by omega] at e
          simpa using e
        subst this
        exact hP D j w _ _ ExtB.at hp
  · rintro m₂ σ₂ ⟨h1, h2, ws, hw, hwl, hil, hPw⟩
    exact q2 σ₂ ws h2 hw (by omega) hPw

theorem TE_AttrV {o : Expr} {name : Str} {pos : Pos} {x cl dx : Addr} {fs : List (Str × Value)} {v : Value} {Q : Value → LM → Store → Prop}
    (hx : σ x = some (.inst cl dx)) (hd : σ dx = some (.dict fs)) (hf : fs.lookup name = some v) (ok : AttrOk (K C.w.params) cl name) (hb : ∀ id, v ≠ .builtin id) (h : Q v m σ)
    (ho : TE C f m σ o (fun ov m₁ σ₁ => ov = .ref x ∧ m₁ = m ∧ σ₁ = σ))
    (he : eval (.Attribute o name pos) f.env = (do
      let o' ← eval o f.env
      standAt pos.atName
      let r ← holding [o'] (getAttr o' name true)
      letTemporaryGo o o' r
      pure r) := by rfl) : TE C f m σ (.Attribute o name pos) Q :=
  TE_Attr (TE.mono ho fun ov m₁ σ₁ ⟨e1, e2, e3⟩ => by subst e2 e3; exact ⟨x, cl, dx, fs, v, e1, hx, hd, hf, ok, hb, h⟩) he
end
end Mine
end
section
open PySem PySem.W PySem.Calls PyProof.Rows
namespace Mine

theorem cellsFrom_has (x : Str) : ∀ (names : List (Str × NameKind)) (k : Nat) (acc : List (Str × Addr)), ((x, NameKind.cell) ∈ names ∨ ∃ c, acc.lookup x = some c) → ∃ c, (cellsFrom k names acc).lookup x = some c
  | [], _, acc, h => by
    rcases h with h | h
    · cases h
    · exact h
  | (y, kd) :: r, k, acc, h => by
    unfold cellsFrom
    have up : ∀ a, (∃ c, acc.lookup x = some c) → ∃ c, ((y, a) :: acc).lookup x = some c := fun a ⟨c, hc⟩ => by
      rw [List.lookup_cons]
      cases x == y with
      | true => exact ⟨a, rfl⟩
      | false => exact ⟨c, hc⟩
    split
    · refine cellsFrom_has x r (k + 1) _ ?_
      rcases h with h | h
      · rcases List.mem_cons.mp h with e | h
        · cases e
          exact .inr ⟨k, by simp⟩
        · exact .inl h
      · exact .inr (up k h)
    · rename_i hk
      refine cellsFrom_has x r k acc ?_
      rcases h with h | h
      · rcases List.mem_cons.mp h with e | h
        · cases e; simp at hk
        · exact .inl h
      · exact .inr h

theorem bindL_lookup {kindOf : Str → Option NameKind} : ∀ (binds : List (Str × Value)) (m : Str → Option Value) (x : Str), (binds.map (·.1)).Nodup → kindOf x = some .local →
    bindL kindOf binds m x = (match binds.lookup x with | some v => some v | none => m x)
  | [], m, x, _, _ => rfl
  | (y, v) :: r, m, x, hn, hk => by
    rw [List.map_cons, List.nodup_cons] at hn
    unfold bindL
    rw [bindL_lookup r _ x hn.2 hk, List.lookup_cons]
    by_cases z : x = y
    · subst z
      have : r.lookup x = none := by
        cases q : r.lookup x with
        | none => rfl
        | some u => exact absurd (List.mem_map.mpr ⟨_, PySem.mem_of_lookup q, rfl⟩) hn.1
      rw [this]
      simp [hk]
    · have : (x == y) = false := beq_eq_false_iff_ne.mpr z
      rw [this]
      cases r.lookup x with
      | some u => rfl
      | none => simp only; split <;> simp [z]
theorem bindC_lookup {kindOf : Str → Option NameKind} : ∀ (binds : List (Str × Value)) (m : Str → Option Value) (x : Str), (binds.map (·.1)).Nodup → kindOf x ≠ some .local →
    bindC kindOf binds m x = (match binds.lookup x with | some v => some v | none => m x)
  | [], m, x, _, _ => rfl
  | (y, v) :: r, m, x, hn, hk => by
    rw [List.map_cons, List.nodup_cons] at hn
    unfold bindC
    rw [bindC_lookup r _ x hn.2 hk, List.lookup_cons]
    by_cases z : x = y
    · subst z
      have : r.lookup x = none := by
        cases q : r.lookup x with
        | none => rfl
        | some u => exact absurd (List.mem_map.mpr ⟨_, PySem.mem_of_lookup q, rfl⟩) hn.1
      rw [this]
      simp [hk]
    · have : (x == y) = false := beq_eq_false_iff_ne.mpr z
      rw [this]
      cases r.lookup x with
      | some u => rfl
      | none => simp only; split <;> simp [z]

structure DefOkC (K : Frag) (fa : Addr) (n : Nat) (names : List Str) (ns : List (Str × NameKind)) (body : List Stmt) (args : List Value) : Prop where
  out : ∃ o fd, K.lookup fa = some o ∧ o.data = .func fd ∧ fd.body = .stmts body ∧ codeIn K fd.code fd.qualname = true ∧
    (∀ ws : List Value, ws.map er = args → bindArgs fd ⟨ws, []⟩ = pure (names.zip ws)) ∧ distinct names = true ∧ (names.all fun x => fd.scope.names.lookup x == some .local || fd.scope.names.lookup x == some .cell) = true ∧
    (fd.scope.names.all fun x => x.2 != .free) = true ∧ distinct (fd.scope.names.map (·.1)) = true ∧ fd.closure = [] ∧ fd.scope.isCoroutine = false ∧ fd.scope.isGenerator = false ∧ fd.scope.kind = .function ∧
    fd.scope.names = ns ∧ fd.globals = mainGlobals ∧ fd.builtins = builtinsNs

theorem lookup_of_mem {α : Type} {l : List (Str × α)} {x : Str} {k : α} (hn : (l.map (·.1)).Nodup) (h : (x, k) ∈ l) : l.lookup x = some k := by
  induction l with
  | nil => cases h
  | cons p r ih =>
    obtain ⟨y, w⟩ := p
    rw [List.map_cons, List.nodup_cons] at hn
    rw [List.lookup_cons]
    rcases List.mem_cons.mp h with e | h
    · cases e; simp
    · have : (x == y) = false := beq_eq_false_iff_ne.mpr fun z => hn.1 (List.mem_map.mpr ⟨(x, k), h, z⟩)
      rw [this]; exact ih hn.2 h

section
variable {prog : Program} {K : Params → Frag} {n : Nat} {ns : List (Str × NameKind)}
variable {C : Cx prog K} {σ : Store}

theorem Spec_defC {fa : Addr} {body : List Stmt} {names : List Str} {args : List Value} {Q : Value → Store → Prop}
    (hd : DefOkC (K C.w.params) fa n names ns body args)
    (h : ∀ f : Fx n ns, Owner f → TX C f (names.zip args) σ (execs body f.env) (fun fl _ σ' => Q (retOf fl) σ')) :
    Spec C (n + 1) (.ref fa) args σ Q := by
  obtain ⟨o, fd, ho, hd, hb, hcode, hbind, hdis, hloc, hfree, hdn, hcl, hco, hgen, hk, hns, hgl, hbl⟩ := hd.out
  intro A ha Fz s ws hws hOw
  have hX := C.X.keeps hOw.1
  have hnd := nodup_of_distinct hdis
  have hnd2 := nodup_of_distinct hdn
  have hlk : ∀ x ∈ names.zip ws, fd.scope.names.lookup x.1 = some .local ∨ fd.scope.names.lookup x.1 = some .cell := fun x hx => by
    have := List.all_eq_true.mp hloc x.1 (List.of_mem_zip hx).1
    simpa using this
  refine codeAny_call_cells (by have := ha.1; unfold recursionLimit; omega) (hX _ _ ho) hd (C.nolimit.keeps hOw.1) (codeRec_of hX hcode) hb (hbind ws hws) hcl (fun x hx => ?_) (fun s₁ hIn => ?_) hco hgen hk
  · rcases hlk x hx with q | q
    · exact .inl q
    · obtain ⟨c, hc⟩ := cellsFrom_has x.1 fd.scope.names (s.heap.objs.size + 1) [] (.inl (lookup_mem q))
      exact .inr ⟨q, by rw [hc]; rfl⟩
  · generalize henv : callEnvC fd s.heap.objs.size fa = env at *
    have hL : env.locals = s.heap.objs.size := by subst henv; rfl
    have hcells : env.cells = cellsFrom (s.heap.objs.size + 1) fd.scope.names [] := by subst henv; rfl
    have hsc : env.scope = fd.scope := by subst henv; rfl
    have hns' : env.scope.names = ns := by rw [hsc]; exact hns
    obtain ⟨⟨h₁, tk₁, es⟩, hn, hkeep, hfr⟩ := hIn.toInCall
    have hsz : ∀ b o, s.heap.get? b = some o → b < s.heap.objs.size := fun b o e => Heap.lt_size e
    let own := env.locals :: env.cells.map (·.2)
    have hown : ∀ b ∈ own, s.heap.objs.size ≤ b := fun b hb => by
      rcases List.mem_cons.mp hb with rfl | hb
      · rw [hL]; exact Nat.le_refl _
      · obtain ⟨p, hp, rfl⟩ := List.mem_map.mp hb
        have := hIn.above p.1 p.2 hp
        rw [hL] at this; exact Nat.le_of_lt this
    have hcl2 : ∀ x c, env.cells.lookup x = some c → c ∈ own := fun x c hc => List.mem_cons_of_mem _ (List.mem_map.mpr ⟨_, PySem.mem_of_lookup hc, rfl⟩)
    let fx : Fx n ns := ⟨Around.deeper A env, env, own, hns', by rw [hsc]; exact hk, by subst henv; exact hgl, by subst henv; exact hbl⟩
    have hOwner : Owner fx := ⟨hcl2, fun x y c h1 h2 => name_of_addr hIn.apart (PySem.mem_of_lookup h1) (PySem.mem_of_lookup h2), fun x hx => by
      show ∃ c, env.cells.lookup x = some c
      rw [hcells]
      exact cellsFrom_has x _ _ _ (.inl (by rw [hns]; exact lookup_mem hx))⟩
    have hzip : names.zip args = (names.zip ws).map fun p => (p.1, er p.2) := by rw [← hws, List.zip_map_right]; rfl
    have hst : St C Fz fx (names.zip args) σ s₁ := by
      refine ⟨fun b o e => hkeep b o (hOw.1 b o e), ?_, ⟨⟨_, hn, fun x v hv hkx => ?_⟩, fun x v hv hkc => ?_, fun x c hc => ?_⟩, fun a o e => ?_, fun b hb => ?_, ?_, ?_, fun b hb => ?_, List.mem_cons_self, fun x c hc => .inl (hcl2 x c hc)⟩
      · show C.top.objs.size ≤ env.locals
        rw [hL]; exact C.sizes s.heap hOw.1
      · rw [hzip, lookup_er] at hv
        have hkx' : env.kindOf x = some .local := hkx
        rw [bindL_lookup _ _ _ (zip_fst hnd) hkx']
        cases q : (names.zip ws).lookup x with
        | none => rw [q] at hv; cases hv
        | some u => rw [q] at hv; exact hv
      · rw [hzip, lookup_er] at hv
        cases q : (names.zip ws).lookup x with
        | none => rw [q] at hv; cases hv
        | some u =>
          rw [q] at hv
          have hkc' : env.kindOf x = some .cell ∨ env.kindOf x = some .free := hkc
          have hne : env.kindOf x ≠ some .local := by rcases hkc' with e | e <;> (rw [e]; intro z; cases z)
          have hcell : fd.scope.names.lookup x = some .cell := by
            rcases hkc' with e | e
            · rw [← hsc]; exact e
            · exfalso
              have e' : fd.scope.names.lookup x = some .free := by rw [← hsc]; exact e
              have := List.all_eq_true.mp hfree _ (lookup_mem e')
              simp at this
          obtain ⟨c, hc⟩ := cellsFrom_has x fd.scope.names (s.heap.objs.size + 1) [] (.inl (lookup_mem hcell))
          rw [← hcells] at hc
          have hi := hIn.cell x c hc
          rw [bindC_lookup _ _ _ (zip_fst hnd) hne, q] at hi
          exact ⟨c, u, hc, hi, Option.some.inj hv⟩
      · obtain hi := hIn.cell x c hc
        exact ⟨_, hi⟩
      · obtain ⟨h1, h2, h3⟩ := hOw.2.1 a o e
        obtain ⟨ob, hob⟩ := h1.some
        refine ⟨h1.same ((hkeep _ _ hob).trans hob.symm), h2, h3, fun z => ?_⟩
        exact Nat.not_lt.mpr (hown a z) (hsz a ob hob)
      · obtain ⟨o, ho'⟩ := hOw.2.2.1 b hb
        refine ⟨⟨o, hkeep _ _ ho'⟩, fun z => ?_⟩
        exact Nat.not_lt.mpr (hown b z) (hsz b o ho')
      · rw [es]; exact hOw.2.2.2.1
      · rw [es]; exact hOw.2.2.2.2
      · refine ⟨?_, ?_⟩
        · cases z : C.top.get? b with
          | none => rfl
          | some o =>
            exact absurd (hsz b o (hOw.1 _ _ z)) (Nat.not_lt.mpr (hown b hb))
        · rcases List.mem_cons.mp hb with rfl | hb
          · obtain ⟨o, _, _, ho', _⟩ := hn
            exact ⟨o, ho'⟩
          · obtain ⟨p, hp, rfl⟩ := List.mem_map.mp hb
            have hnc : (env.cells.map (·.1)).Nodup ∨ True := .inr trivial
            have hlook : ∃ c', env.cells.lookup p.1 = some c' := by
              cases q : env.cells.lookup p.1 with
              | some c' => exact ⟨c', rfl⟩
              | none =>
                exfalso
                have : ∀ (l : List (Str × Addr)), p ∈ l → l.lookup p.1 ≠ none := by
                  intro l
                  induction l with
                  | nil => intro h; cases h
                  | cons y r ih =>
                    intro h
                    rw [List.lookup_cons]
                    rcases List.mem_cons.mp h with rfl | h
                    · simp
                    · cases p.1 == y.1 with
                      | true => simp
                      | false => exact ih h
                exact this _ hp q
            obtain ⟨c', hc'⟩ := hlook
            by_cases z : c' = p.2
            · subst z
              obtain ⟨o, ho', _⟩ := hIn.cell _ _ hc'
              exact ⟨o, ho'⟩
            · refine absurd ?_ z
              have hcn : ∀ (nm : List (Str × NameKind)) (k : Nat) (acc : List (Str × Addr)), (nm.map (·.1)).Nodup → (∀ q ∈ acc, q.1 ∉ nm.map (·.1)) → (acc.map (·.1)).Nodup → ((cellsFrom k nm acc).map (·.1)).Nodup := by
                intro nm
                induction nm with
                | nil => intro k acc _ _ h3; exact h3
                | cons y r ih =>
                  intro k acc h1 h2 h3
                  obtain ⟨y, kd⟩ := y
                  rw [List.map_cons, List.nodup_cons] at h1
                  unfold cellsFrom
                  split
                  · refine ih _ _ h1.2 (fun q hq => ?_) ?_
                    · rcases List.mem_cons.mp hq with rfl | hq
                      · exact h1.1
                      · exact fun hm => h2 q hq (List.mem_cons_of_mem _ hm)
                    · rw [List.map_cons, List.nodup_cons]
                      refine ⟨fun hm => ?_, h3⟩
                      obtain ⟨q, hq, e⟩ := List.mem_map.mp hm
                      exact h2 q hq (by rw [e]; exact List.mem_cons_self)
                  · exact ih _ _ h1.2 (fun q hq hm => h2 q hq (List.mem_cons_of_mem _ hm)) h3
              have hnd3 : (env.cells.map (·.1)).Nodup := by rw [hcells]; exact hcn _ _ _ hnd2 (fun q hq => by cases hq) .nil
              have := lookup_of_mem hnd3 (k := p.2) (x := p.1) hp
              rw [hc'] at this
              exact Option.some.inj this
    refine wpAny_mono (h fx hOwner ⟨?_, ?_, ha.2.2⟩ Fz _ hst) (fun fl s' ⟨m', σ', h1, k1, q1⟩ => ?_) fun _ _ x => x.elim
    · have := ha.1; show A.depth + 1 + n ≤ 900; omega
    · have := ha.2.1; show A.units + 3 + 10 * n ≤ 9000; omega
    · refine ⟨retOf fl, σ', ?_, h1.owns, fun b hb => ?_, ?_⟩
      · cases fl <;> rfl
      · obtain ⟨o, ho'⟩ := hOw.2.2.1 b hb
        exact (k1 b hb).trans ((hkeep _ _ ho').trans ho'.symm)
      · cases fl <;> exact q1
end
end Mine
end
section
open PySem PySem.W PySem.Calls PyProof.Rows
namespace Mine
section
variable {prog : Program} {w : World} {A : Around} {R : Result → Shared → Prop} {s : Shared}
theorem compTurn_in (elt target iter : Expr) (g : Comprehension) (scope : Scope) (pos : Pos) (it acc : Value) (env : Env) :
    compTurn (.ListComp elt [g, ⟨target, iter, [], 0⟩] scope pos) 1 it acc env = (standAt iter.pos >>= fun _ => pyNext it >>= fun r => match r with
      | none => pure (.done .next)
      | some v => letOwnedTupleGo target it v >>= fun _ => assign target env v >>= fun _ =>
        (eval elt env >>= fun x => call (.builtin "list.append") [acc, x] >>= fun _ => pure ()) >>= fun _ =>
          again (.compLoop (.ListComp elt [g, ⟨target, iter, [], 0⟩] scope pos) 1 it acc env)) := by rfl
theorem codeAny_compLoop_in {elt target iter : Expr} {g : Comprehension} {scope : Scope} {pos : Pos} {it acc : Value} {env : Env} (I : Nat → Shared → Prop)
    (turn : ∀ n s, I n s → wpAny (model prog w) A (pyNext it) (fun r s₁ => match r with
      | none => R (.ok .next) s₁
      | some v => wpAny (model prog w) A (assign target env v) (fun _ s₂ => wpAny (model prog w) A (eval elt env) (fun x s₃ =>
          wpAny (model prog w) A (call (.builtin "list.append") [acc, x]) (fun _ s₄ => ∃ m, m < n ∧ I m s₄) (notedBy (model prog w) A env fun e s' => R (.error e) s') s₃)
          (notedBy (model prog w) A env fun e s' => R (.error e) s') s₂) (notedBy (model prog w) A env fun e s' => R (.error e) s') s₁) (notedBy (model prog w) A env fun e s' => R (.error e) s') s)
    (n : Nat) (h : I n s) (ht : ∀ v, letOwnedTupleGo target it v = pure () := by intro _; rfl) :
    codeAny (model prog w) A (.compLoop (.ListComp elt [g, ⟨target, iter, [], 0⟩] scope pos) 1 it acc env) R s := by
  refine codeAny_loop rfl I (fun n s hI => ?_) n h
  show wpAny _ _ ((compTurn (.ListComp elt [g, ⟨target, iter, [], 0⟩] scope pos) 1 it acc env).onRaise (fun x => do noteFrame x env; theTreesLotGoes x)) _ _ s
  refine wpAny_noted ?_
  rw [compTurn_in]
  refine wpAny_bind (wpAny_standAt (wpAny_bind (wpAny_mono (turn n s hI) (fun r s₁ h₁ => ?_) fun _ _ h' => h')))
  cases r with
  | none => exact wpAny_pure h₁
  | some v =>
    refine wpAny_bind (wpAny_of_eq (ht v) ?_)
    exact wpAny_bind (wpAny_mono h₁ (fun _ s₂ h₂ => wpAny_bind (wpAny_bind (wpAny_mono h₂ (fun x s₃ h₃ => wpAny_bind (wpAny_mono h₃
      (fun _ s₄ h₄ => wpAny_pure (wpAny_pure ⟨rfl, h₄⟩)) fun _ _ h' => h')) fun _ _ h' => h'))) fun _ _ h' => h')

theorem compTurn_out (elt target iter : Expr) (g : Comprehension) (hg : g.is_async = 0) (scope : Scope) (pos : Pos) (it acc : Value) (env : Env) :
    compTurn (.ListComp elt [⟨target, iter, [], 0⟩, g] scope pos) 0 it acc env = (standAt iter.pos >>= fun _ => pyNext it >>= fun r => match r with
      | none => pure (.done .next)
      | some v => letOwnedTupleGo target it v >>= fun _ => assign target env v >>= fun _ =>
        eval g.iter env >>= fun x => standAt g.iter.pos >>= fun _ => foldedSetIterable g.iter env x >>= fun x => holding [x] (pyIter x) >>= fun i =>
          runOwn (.compStart (.ListComp elt [⟨target, iter, [], 0⟩, g] scope pos) 1 i acc env) env >>= fun _ =>
          again (.compLoop (.ListComp elt [⟨target, iter, [], 0⟩, g] scope pos) 0 it acc env)) := by
  obtain ⟨t, i, fs, a⟩ := g
  have : a = 0 := hg
  subst this
  rfl
theorem codeAny_compStart_in {elt : Expr} {g1 g2 : Comprehension} {scope pos it acc env} (hg : g2.is_async = 0)
    (h0 : codeAny (model prog w) A (.compLoop (.ListComp elt [g1, g2] scope pos) 1 it acc env) R s)
    (h : wpAny (model prog w) A (pyIter it) (fun it' s' => codeAny (model prog w) A (.compLoop (.ListComp elt [g1, g2] scope pos) 1 it' acc env) R s')
      (notedBy (model prog w) A env fun x s' => R (.error x) s') s) :
    codeAny (model prog w) A (.compStart (.ListComp elt [g1, g2] scope pos) 1 it acc env) R s := by
  obtain ⟨t, iter, fs, a⟩ := g2
  have : a = 0 := hg
  subst this
  refine codeAny_of_tree ?_
  show wpAny _ _ ((compStart (.ListComp elt [g1, ⟨t, iter, fs, 0⟩] scope pos) 1 it acc env).onRaise (fun x => do noteFrame x env; standAt theWindowsPlace)) _ _ s
  refine wpAny_notedAt ?_
  unfold compStart
  show wpAny _ _ (ask >>= _) _ _ s
  refine wpAny_bind (wpAny_askSetting (wpAny_ite ?_))
  split
  · first
      | exact wpAny_bind (wpAny_pure (wpAny_pure (And.intro rfl h0)))
      | exact wpAny_pure (And.intro rfl h0)
  · first
      | exact wpAny_bind (wpAny_rule (wpAny_bind (wpAny_standAt (wpAny_bind (wpAny_mono h (fun it' s' h' => wpAny_pure (And.intro rfl h')) fun _ _ x => x)))))
      | (refine wpAny_bind (wpAny_rule ?_); show wpAny _ _ (standAt iter.pos >>= _) _ _ s; exact wpAny_bind (wpAny_standAt (wpAny_bind (wpAny_mono h (fun it' s' h' => wpAny_pure (And.intro rfl h')) fun _ _ x => x))))
theorem codeAny_compLoop_out {elt target iter : Expr} {g : Comprehension} (hg : g.is_async = 0) {scope : Scope} {pos : Pos} {it acc : Value} {env : Env} (I : Nat → Shared → Prop)
    (turn : ∀ n s, I n s → wpAny (model prog w) A (pyNext it) (fun r s₁ => match r with
      | none => R (.ok .next) s₁
      | some v => wpAny (model prog w) A (assign target env v) (fun _ s₂ => wpAny (model prog w) A (eval g.iter env) (fun x s₃ =>
          wpAny (model prog w) A (pyIter x) (fun i s₄ => codeAny (model prog w) A (.compStart (.ListComp elt [⟨target, iter, [], 0⟩, g] scope pos) 1 i acc env) (fun r s' => match r with
            | .ok _ => ∃ m, m < n ∧ I m s'
            | .error e => cameBackBy (model prog w) A env (notedBy (model prog w) A env fun e s' => R (.error e) s') e s') s₄) (notedBy (model prog w) A env fun e s' => R (.error e) s') s₃)
          (notedBy (model prog w) A env fun e s' => R (.error e) s') s₂) (notedBy (model prog w) A env fun e s' => R (.error e) s') s₁) (notedBy (model prog w) A env fun e s' => R (.error e) s') s)
    (n : Nat) (h : I n s) (ht : ∀ v, letOwnedTupleGo target it v = pure () := by intro _; rfl) (hs : ∀ x, foldedSetIterable g.iter env x = pure x) :
    codeAny (model prog w) A (.compLoop (.ListComp elt [⟨target, iter, [], 0⟩, g] scope pos) 0 it acc env) R s := by
  refine codeAny_loop rfl I (fun n s hI => ?_) n h
  show wpAny _ _ ((compTurn (.ListComp elt [⟨target, iter, [], 0⟩, g] scope pos) 0 it acc env).onRaise (fun x => do noteFrame x env; theTreesLotGoes x)) _ _ s
  refine wpAny_noted ?_
  rw [compTurn_out _ _ _ _ hg]
  refine wpAny_bind (wpAny_standAt (wpAny_bind (wpAny_mono (turn n s hI) (fun r s₁ h₁ => ?_) fun _ _ h' => h')))
  cases r with
  | none => exact wpAny_pure h₁
  | some v =>
    refine wpAny_bind (wpAny_of_eq (ht v) ?_)
    refine wpAny_bind (wpAny_mono h₁ (fun _ s₂ h₂ => wpAny_bind (wpAny_mono h₂ (fun x s₃ h₃ => ?_) fun _ _ h' => h')) fun _ _ h' => h')
    refine wpAny_bind (wpAny_standAt (wpAny_bind ?_))
    rw [hs]
    refine wpAny_pure (wpAny_bind (wpAny_holding (wpAny_mono h₃ (fun i s₄ h₄ => ?_) fun _ _ h' => h')))
    refine wpAny_bind (wpAny_runOwn ?_)
    rw [Around.mark_none]
    exact codeAny_mono h₄ fun r s' q => by
      cases r with
      | ok fl => exact wpAny_pure ⟨rfl, q⟩
      | error e => exact q
end
end Mine
end
section
open PySem PySem.W PySem.Calls PyProof.Rows
namespace Mine
section
variable {prog : Program} {K : Params → Frag} {n : Nat} {ns : List (Str × NameKind)}
variable {C : Cx prog K} {f : Fx n ns} {m : LM} {σ : Store}

theorem St.withIter {Fz : Addr → Prop} {s : Shared} {ob : Obj} (h1 : St C Fz f m σ s) (hfo : ob.isFreed = false) :
    St C (fun b => Fz b ∨ b = s.heap.objs.size) f m σ { s with heap := s.heap.push ob } ∧ C.top.get? s.heap.objs.size = none ∧ ¬ Fz s.heap.objs.size ∧
      (∀ x c, f.env.cells.lookup x = some c → c ≠ s.heap.objs.size ∧ (c ∈ f.own ∨ Fz c)) ∧ ∀ b, Fz b → (s.heap.push ob).get? b = s.heap.get? b := by
  generalize hIt : s.heap.objs.size = It
  have hfr := Owns.fresh h1
  rw [hIt] at hfr
  have hg := h1.grow (s' := { s with heap := s.heap.push ob }) (σ' := σ) (fun b o e => Heap.get?_push_of_some _ e) (fun a o e => .inl e) rfl rfl
  have hob : ∃ o, (s.heap.push ob).get? It = some o := ⟨ob, by rw [← hIt]; exact Heap.get?_push_size _ hfo⟩
  refine ⟨?_, ?_, hfr.2.1, fun x c hc => ⟨fun z => ?_, h1.cellsIn x c hc⟩, hg.2⟩
  · have q := hg.1
    refine ⟨q.keep, q.above, q.loc, fun a o e => ?_, fun b hb => ?_, q.gens, q.os, q.own, q.loWn, fun x c hc => ?_⟩
    · obtain ⟨c1, c2, c3, c4⟩ := q.sto a o e
      exact ⟨c1, c2, fun z => z.elim c3 fun z => (by subst z; rw [hfr.1] at e; cases e), c4⟩
    · rcases hb with hb | rfl
      · exact q.fz b hb
      · exact ⟨hob, hfr.2.2⟩
    · exact (q.cellsIn x c hc).imp id .inl
  · cases z : C.top.get? It with
    | none => rfl
    | some o => exact absurd (Heap.lt_size (h1.keep _ _ z)) (by rw [hIt]; exact Nat.lt_irrefl _)
  · rcases h1.cellsIn x c hc with q | q
    · exact hfr.2.2 (z ▸ q)
    · exact hfr.2.1 (z ▸ q)

theorem comp_loop_in {x : Str} {px pos : Pos} {elt iter : Expr} {g : Comprehension} {scope : Scope} {k : SK} {items : List Value} {D It : Addr} {Fz : Addr → Prop} {s : Shared} {Inv : Nat → LM → Store → Prop}
    (ha : AOk n f.A) (hst : St C (fun b => Fz b ∨ b = It) f m σ s) (hat : k.at s.heap It 0) (hTop : C.top.get? It = none) (hIt : ¬ Fz It)
    (hcells : ∀ x c, f.env.cells.lookup x = some c → c ≠ It ∧ (c ∈ f.own ∨ Fz c))
    (hl : ns.lookup x = some .local) (h0 : Inv 0 m σ) (hkeep : ∀ i m₂ σ₂, Inv i m₂ σ₂ → k.holds σ₂ items)
    (hturn : ∀ i v m₂ σ₂, items[i]? = some v → Inv i m₂ σ₂ → TE C f ((x, v) :: m₂) σ₂ elt (fun w m₃ σ₃ => ∃ r vs, σ₃ D = some (.list r vs) ∧ vs.length ≤ 1000 ∧ Inv (i + 1) m₃ (upd σ₃ D (.list r (vs ++ [w]))))) :
    codeAny (model prog C.w) f.A (.compLoop (.ListComp elt [g, ⟨.Name x px, iter, [], 0⟩] scope pos) 1 (.ref It) (.ref D) f.env)
      (fun r s' => ∃ fl m' σ', r = .ok fl ∧ St C Fz f m' σ' s' ∧ (∀ b, Fz b → s'.heap.get? b = s.heap.get? b) ∧ Inv items.length m' σ') s := by
  have hne : ∀ b, Fz b → b ≠ It := fun b hb z => hIt (z ▸ hb)
  refine codeAny_compLoop_in
    (fun N s' => ∃ i m₂ σ₂, N = items.length + 1 - i ∧ i ≤ items.length ∧ Inv i m₂ σ₂ ∧ St C (fun b => Fz b ∨ b = It) f m₂ σ₂ s' ∧ k.at s'.heap It i ∧ ∀ b, Fz b → s'.heap.get? b = s.heap.get? b) ?_ (items.length + 1)
    ⟨0, m, σ, rfl, Nat.zero_le _, h0, hst, hat, fun b hb => rfl⟩
  rintro N s' ⟨i, m₂, σ₂, rfl, hi, hinv, h2, hat2, k2⟩
  have hno : ∀ {α : Type} {t : Sem α} {P : α → Shared → Prop} {s'' : Shared} {E' : Value → Shared → Prop}, wpAny (model prog C.w) f.A t P (fun _ _ => False) s'' → wpAny (model prog C.w) f.A t P E' s'' := fun hw => wpAny_mono hw (fun _ _ x => x) fun _ _ x => x.elim
  by_cases hlt : i < items.length
  · refine hno (SK.next (v := items[i]) h2 (hkeep i m₂ σ₂ hinv) hat2 (by simp [hlt]) fun u h' tk hu hat' hsame => ?_)
    have h3 : St C (fun b => Fz b ∨ b = It) f m₂ σ₂ { s' with heap := h', toks := tk } :=
      h2.touch (.inr rfl) hTop (fun b o hb e => (hsame b hb).trans e) (fun b hb => ⟨hb, fun z => z ▸ hat'.ex⟩) (fun x c hc => ⟨(hcells x c hc).1, (hcells x c hc).2.imp id .inl⟩) rfl rfl
    refine hno (wpAny_assign_Name (T.run (T_store (Q := fun _ m' σ' => m' = (x, er u) :: m₂ ∧ σ' = σ₂) ⟨rfl, rfl⟩ hl) ha h3 fun _ m₄ σ₄ s₄ h4 k4 q4 => ?_))
    obtain ⟨rfl, rfl⟩ := q4
    rw [hu] at h4
    refine hno (T.run (hturn i items[i] m₂ σ₄ (by simp [hlt]) hinv) ha h4 fun w m₅ σ₅ s₅ h5 k5 q5 => ?_)
    obtain ⟨r, vs, hD, hz, q5⟩ := q5
    refine hno (T.run (T_append1 (Q := fun _ m' σ' => Inv (i + 1) m' σ') hD hz q5) ha h5 fun _ m₆ σ₆ s₆ h6 k6 q6 => ?_)
    have hk6 : ∀ b, Fz b → s₆.heap.get? b = s.heap.get? b := fun b hb => ((k6 b (.inl hb)).trans ((k5 b (.inl hb)).trans (k4 b (.inl hb)))).trans ((hsame b (hne b hb)).trans (k2 b hb))
    have hat6 : k.at s₆.heap It (i + 1) := hat'.same ((k6 It (.inr rfl)).trans ((k5 It (.inr rfl)).trans (k4 It (.inr rfl))))
    exact ⟨items.length + 1 - (i + 1), by omega, i + 1, m₆, σ₆, rfl, hlt, q6, h6, hat6, hk6⟩
  · have hi' : i = items.length := by omega
    refine hno (SK.last ha.2.2 h2 (hkeep i m₂ σ₂ hinv) hat2 hi' fun h' hk' => ?_)
    refine ⟨.next, m₂, σ₂, rfl, ?_, fun b hb => ?_, hi' ▸ hinv⟩
    · exact h2.touch (.inr rfl) hTop hk' (fun b hb => ⟨.inl hb, fun z => absurd z (hne b hb)⟩) hcells rfl rfl
    · obtain ⟨⟨o, ho⟩, _⟩ := h2.fz b (.inl hb)
      exact ((hk' b o (hne b hb) ho).trans ho.symm).trans (k2 b hb)

noncomputable def InnerOk (C : Cx prog K) (f : Fx n ns) (x : Str) (elt : Expr) (D : Addr) (w : Value) (m₃ : LM) (σ₃ : Store) (P : LM → Store → Prop) : Prop :=
  ∃ (k2 : SK) (items2 : List Value) (Inv2 : Nat → LM → Store → Prop), w = k2.val ∧ Inv2 0 m₃ σ₃ ∧ (∀ j m σ, Inv2 j m σ → k2.holds σ items2) ∧
    (∀ j u m₄ σ₄, items2[j]? = some u → Inv2 j m₄ σ₄ → TE C f ((x, u) :: m₄) σ₄ elt (fun z m₅ σ₅ => ∃ r vs, σ₅ D = some (.list r vs) ∧ vs.length ≤ 1000 ∧ Inv2 (j + 1) m₅ (upd σ₅ D (.list r (vs ++ [z]))))) ∧
    (∀ m₄ σ₄, Inv2 items2.length m₄ σ₄ → P m₄ σ₄)

theorem comp_loop_out {x y : Str} {px py pos : Pos} {elt iter iter2 : Expr} {scope : Scope} {k : SK} {items : List Value} {D It : Addr} {Fz : Addr → Prop} {s : Shared} {Inv : Nat → LM → Store → Prop}
    (ha : AOk n f.A) (hst : St C (fun b => Fz b ∨ b = It) f m σ s) (hat : k.at s.heap It 0) (hTop : C.top.get? It = none) (hIt : ¬ Fz It)
    (hcells : ∀ x c, f.env.cells.lookup x = some c → c ≠ It ∧ (c ∈ f.own ∨ Fz c))
    (hly : ns.lookup y = some .local) (hlx : ns.lookup x = some .local) (h0 : Inv 0 m σ) (hkeep : ∀ i m₂ σ₂, Inv i m₂ σ₂ → k.holds σ₂ items)
    (hturn : ∀ i v m₂ σ₂, items[i]? = some v → Inv i m₂ σ₂ → TE C f ((y, v) :: m₂) σ₂ iter2 (fun w m₃ σ₃ => InnerOk C f x elt D w m₃ σ₃ (fun m₄ σ₄ => Inv (i + 1) m₄ σ₄)))
    (hs2 : ∀ z, foldedSetIterable iter2 f.env z = pure z) :
    codeAny (model prog C.w) f.A (.compLoop (.ListComp elt [⟨.Name y py, iter, [], 0⟩, ⟨.Name x px, iter2, [], 0⟩] scope pos) 0 (.ref It) (.ref D) f.env)
      (fun r s' => ∃ fl m' σ', r = .ok fl ∧ St C Fz f m' σ' s' ∧ (∀ b, Fz b → s'.heap.get? b = s.heap.get? b) ∧ Inv items.length m' σ') s := by
  have hne : ∀ b, Fz b → b ≠ It := fun b hb z => hIt (z ▸ hb)
  refine codeAny_compLoop_out (g := ⟨.Name x px, iter2, [], 0⟩) rfl
    (fun N s' => ∃ i m₂ σ₂, N = items.length + 1 - i ∧ i ≤ items.length ∧ Inv i m₂ σ₂ ∧ St C (fun b => Fz b ∨ b = It) f m₂ σ₂ s' ∧ k.at s'.heap It i ∧ ∀ b, Fz b → s'.heap.get? b = s.heap.get? b) ?_ (items.length + 1)
    ⟨0, m, σ, rfl, Nat.zero_le _, h0, hst, hat, fun b hb => rfl⟩ (by intro _; rfl) hs2
  rintro N s' ⟨i, m₂, σ₂, rfl, hi, hinv, h2, hat2, k2⟩
  have hno : ∀ {α : Type} {t : Sem α} {P : α → Shared → Prop} {s'' : Shared} {E' : Value → Shared → Prop}, wpAny (model prog C.w) f.A t P (fun _ _ => False) s'' → wpAny (model prog C.w) f.A t P E' s'' := fun hw => wpAny_mono hw (fun _ _ x => x) fun _ _ x => x.elim
  by_cases hlt : i < items.length
  · refine hno (SK.next (v := items[i]) h2 (hkeep i m₂ σ₂ hinv) hat2 (by simp [hlt]) fun u h' tk hu hat' hsame => ?_)
    have h3 : St C (fun b => Fz b ∨ b = It) f m₂ σ₂ { s' with heap := h', toks := tk } :=
      h2.touch (.inr rfl) hTop (fun b o hb e => (hsame b hb).trans e) (fun b hb => ⟨hb, fun z => z ▸ hat'.ex⟩) (fun x c hc => ⟨(hcells x c hc).1, (hcells x c hc).2.imp id .inl⟩) rfl rfl
    refine hno (wpAny_assign_Name (T.run (T_store (Q := fun _ m' σ' => m' = (y, er u) :: m₂ ∧ σ' = σ₂) ⟨rfl, rfl⟩ hly) ha h3 fun _ m₄ σ₄ s₄ h4 k4 q4 => ?_))
    obtain ⟨rfl, rfl⟩ := q4
    rw [hu] at h4
    refine hno (T.run (hturn i items[i] m₂ σ₄ (by simp [hlt]) hinv) ha h4 fun w m₅ σ₅ s₅ h5 k5 q5 => ?_)
    obtain ⟨kk, items2, Inv2, e, j0, jk, jt, je⟩ := q5
    have e' : w = kk.val := by cases kk <;> exact er_ref e
    subst e'
    refine hno (SK.iter h5 (jk 0 _ _ j0) fun ob hfo hat5 => ?_)
    obtain ⟨w1, w2, w3, w4, w5⟩ := h5.withIter hfo
    refine (fun fin => codeAny_compStart_in rfl fin (SK.again hat5 fin)) ?_
    · skip
      refine codeAny_mono (comp_loop_in ha w1 hat5 w2 w3 w4 hlx j0 jk jt) fun r s₆ z => ?_
      obtain ⟨fl, m₆, σ₆, rfl, h6, k6, q6⟩ := z
      have hk6 : ∀ b, (Fz b ∨ b = It) → s₆.heap.get? b = s₅.heap.get? b := fun b hb => (k6 b hb).trans (w5 b hb)
      refine ⟨items.length + 1 - (i + 1), by omega, i + 1, m₆, σ₆, rfl, hlt, je _ _ q6, h6, ?_, fun b hb => ?_⟩
      · exact hat'.same ((hk6 It (.inr rfl)).trans ((k5 It (.inr rfl)).trans (k4 It (.inr rfl))))
      · exact ((hk6 b (.inl hb)).trans ((k5 b (.inl hb)).trans (k4 b (.inl hb)))).trans ((hsame b (hne b hb)).trans (k2 b hb))
  · have hi' : i = items.length := by omega
    refine hno (SK.last ha.2.2 h2 (hkeep i m₂ σ₂ hinv) hat2 hi' fun h' hk' => ?_)
    refine ⟨.next, m₂, σ₂, rfl, ?_, fun b hb => ?_, hi' ▸ hinv⟩
    · exact h2.touch (.inr rfl) hTop hk' (fun b hb => ⟨.inl hb, fun z => absurd z (hne b hb)⟩) hcells rfl rfl
    · obtain ⟨⟨o, ho⟩, _⟩ := h2.fz b (.inl hb)
      exact ((hk' b o (hne b hb) ho).trans ho.symm).trans (k2 b hb)

theorem TE_ListComp2 {elt iter iter2 : Expr} {x y : Str} {px py pos : Pos} {scope : Scope} {Q : Value → LM → Store → Prop} (ok : ScopeOk ns scope)
    (hfree : ∀ y, (y, NameKind.free) ∈ scope.names → ∃ v, m.lookup y = some v) (hy : (relabelNs ns scope.names).lookup y = some .local) (hx : (relabelNs ns scope.names).lookup x = some .local)
    (h : TE C f m σ iter (fun v m₁ σ₁ => m₁ = m ∧ ∃ k items, v = SK.val k ∧ k.holds σ₁ items ∧ ∀ D, σ₁ D = none → ∃ Inv : Nat → LM → Store → Prop,
      Inv 0 (cellsOf ns scope.names m) (upd σ₁ D (.list .plain [])) ∧ (∀ i m₂ σ₂, Inv i m₂ σ₂ → k.holds σ₂ items) ∧
      (∀ (fc : Fx n (relabelNs ns scope.names)) i v m₂ σ₂, items[i]? = some v → Inv i m₂ σ₂ → TE C fc ((y, v) :: m₂) σ₂ iter2 (fun w m₃ σ₃ => InnerOk C fc x elt D w m₃ σ₃ (fun m₄ σ₄ => Inv (i + 1) m₄ σ₄))) ∧
      (∀ m₂ σ₂, Inv items.length m₂ σ₂ → Q (.ref D) m σ₂)))
    (hs2 : ∀ (fc : Fx n (relabelNs ns scope.names)) z, foldedSetIterable iter2 fc.env z = pure z)
    (hs : ∀ x, foldedSetIterable iter f.env x = pure x := by intro _; rfl) :
    TE C f m σ (.ListComp elt [⟨.Name y py, iter, [], 0⟩, ⟨.Name x px, iter2, [], 0⟩] scope pos) Q := by
  refine T_comprehension ok hfree (T.mono h fun v m₁ σ₁ q => ?_) hs
  obtain ⟨e, k, items, ev, hh, q⟩ := q
  refine ⟨e, k, items, ev, hh, fun D hD fc ha Fz s It hst hat hTop hIt hcells => ?_⟩
  obtain ⟨Inv, h0, hkeep, hturn, hend⟩ := q D hD
  refine codeAny_mono (comp_loop_out ha hst hat hTop hIt hcells hy hx h0 hkeep (hturn fc) (hs2 fc)) fun r s' z => ?_
  obtain ⟨fl, m', σ', rfl, h2, k2, q2⟩ := z
  exact ⟨fl, m', σ', rfl, h2, k2, hend _ _ q2⟩

theorem TX_AssignList4 {x1 x2 x3 x4 : Str} {p1 p2 p3 p4 tpos pos : Pos} {k : Nat} {value : Expr} {Q : Flow → LM → Store → Prop}
    (h : TE C f m σ value (fun v m₁ σ₁ => ∃ t r a b c d, v = .ref t ∧ σ₁ t = some (.list r [a, b, c, d]) ∧ Q .next ((x4, d) :: (x3, c) :: (x2, b) :: (x1, a) :: m₁) σ₁))
    (h1 : Stor C f x1 := by first | exact Stor_local (by rfl) | exact Stor_cell (by assumption) (by rfl)) (h2 : Stor C f x2 := by first | exact Stor_local (by rfl) | exact Stor_cell (by assumption) (by rfl))
    (h3 : Stor C f x3 := by first | exact Stor_local (by rfl) | exact Stor_cell (by assumption) (by rfl)) (h4 : Stor C f x4 := by first | exact Stor_local (by rfl) | exact Stor_cell (by assumption) (by rfl))
    (hs : swapsWithSole [.Tuple [.Name x1 p1, .Name x2 p2, .Name x3 p3, .Name x4 p4] k tpos] value pos.line f.env = pure false := by rfl)
    (hw : swappedStores [.Tuple [.Name x1 p1, .Name x2 p2, .Name x3 p3, .Name x4 p4] k tpos] value f.env = pure none := by rfl) :
    TX C f m σ (exec (.Assign [.Tuple [.Name x1 p1, .Name x2 p2, .Name x3 p3, .Name x4 p4] k tpos] value pos) f.env) Q := fun ha Fz s hst => by
  refine Assign_Tuple (h.run ha hst fun v m₁ σ₁ s₁ hh1 k1 q1 => ?_) hs hw
  obtain ⟨t, r, a, b, c, d, e, ht, q1⟩ := q1
  rw [er_ref e]
  obtain ⟨⟨ws, n', hg, hw⟩, _⟩ := hh1.sto _ _ ht
  have hlen : ws.size = 4 := by have := congrArg List.length hw; simpa using this
  obtain ⟨l⟩ := ws
  match l, hlen, hw with
  | [u1, u2, u3, u4], _, hw =>
    simp only [List.map_cons, List.map_nil, List.cons.injEq, and_true] at hw
    obtain ⟨rfl, rfl, rfl, rfl⟩ := hw
    rw [assign_Tuple]
    refine wpAny_bind (wpAny_standAt ?_)
    unfold unpack
    refine wpAny_bind (wpAny_holding (kun_itemsOf (items := #[u1, u2, u3, u4]) ha.2.2 ⟨_, hg, rfl, _, rfl⟩ fun h' he => ?_))
    have q := hh1.grow (s' := { s₁ with heap := h' }) (σ' := σ₁) (fun b o e => he b o (Nat.ne_of_lt (Heap.lt_size e)) e) (fun a o e => .inl e) rfl rfl
    refine assignInOrder_cons (t := assign (.Name x1 p1) f.env) (wpAny_assign_Name (T.run (h1 _ _ _ (fun _ m' σ' => m' = (x1, er u1) :: m₁ ∧ σ' = σ₁) ⟨rfl, rfl⟩) ha q.1 fun _ m₂ σ₂ s₂ h2' k2 q2 => ?_))
    obtain ⟨rfl, rfl⟩ := q2
    refine assignInOrder_cons (t := assign (.Name x2 p2) f.env) (wpAny_assign_Name (T.run (h2 _ _ _ (fun _ m' σ' => m' = (x2, er u2) :: (x1, er u1) :: m₁ ∧ σ' = σ₂) ⟨rfl, rfl⟩) ha h2' fun _ m₃ σ₃ s₃ h3' k3 q3 => ?_))
    obtain ⟨rfl, rfl⟩ := q3
    refine assignInOrder_cons (t := assign (.Name x3 p3) f.env) (wpAny_assign_Name (T.run (h3 _ _ _ (fun _ m' σ' => m' = (x3, er u3) :: (x2, er u2) :: (x1, er u1) :: m₁ ∧ σ' = σ₃) ⟨rfl, rfl⟩) ha h3' fun _ m₄ σ₄ s₄ h4' k4 q4 => ?_))
    obtain ⟨rfl, rfl⟩ := q4
    refine assignInOrder_cons (t := assign (.Name x4 p4) f.env) (wpAny_assign_Name (T.run (h4 _ _ _ (fun _ m' σ' => m' = (x4, er u4) :: (x3, er u3) :: (x2, er u2) :: (x1, er u1) :: m₁ ∧ σ' = σ₄) ⟨rfl, rfl⟩) ha h4' fun _ m₅ σ₅ s₅ h5' k5 q5 => ?_))
    obtain ⟨rfl, rfl⟩ := q5
    exact assignInOrder_nil ⟨_, _, h5', fun b hb => ((k5 b hb).trans (k4 b hb)).trans (((k3 b hb).trans (k2 b hb)).trans ((q.2 b hb).trans (k1 b hb))), q1⟩

theorem TE_dictGet {keys : List (Option Expr)} {values : List Expr} {D : List (PyData × PyData)} {p1 ap pos : Pos} {kE dE : Expr} {pl : Sem Bool} {Q : Value → LM → Store → Prop}
    (hD : litPairs keys values = some D) (hst : strKeyed D = true) (hn : (strKeysOf D).Nodup) (hall : keys.all (·.isSome) = true) (hlen : keys.length = values.length) (h0 : keys ≠ []) (hl15 : keys.length ≤ 15)
    (h : TArgs C f m σ pos [kE, dE] (fun vs m₂ σ₂ => ∃ x y z, vs = [S x, S y] ∧ (PySem.Spec.lookup (.str x) D).getD (.str y) = .str z ∧ Q (S z) m₂ σ₂))
    (he : eval (.Call (.Attribute (.Dict keys values p1) "get" ap) [kE, dE] [] pos) f.env = (do
      let ov ← eval (.Dict keys values p1) f.env
      standAt ap.atName
      let (f', first) ← holding [ov] (getMethod ov "get" pl)
      callWith pos f' first (backTo pos (starEach [kE, dE] f.env)) []) := by rfl)
    (hp : ((backTo pos (starEach [kE, dE] f.env)).any (·.1)) = false := by rfl) : TE C f m σ (.Call (.Attribute (.Dict keys values p1) "get" ap) [kE, dE] [] pos) Q := fun ha Fz s hs => by
  refine MethodCall_ (pl := pl) (Dict_lits_str hD hst hn hall hlen h0 hl15 fun a o h₁ tk hle ho htab hk => ?_) he
  have g0 := hs.kept (h' := h₁) tk hk
  have T0 : StrTab prog C.w h₁ a D := by
    obtain ⟨kvs, hd, hf⟩ := htab
    refine TabAt.ofObj (beq_eq_false_iff_ne.mpr fun e => ?_) ho hd hf
    have h1 := C.sizes s.heap hs.keep
    have h2 := C.low
    exact Nat.lt_irrefl _ (Nat.lt_of_lt_of_le h2 (Nat.le_trans h1 (e ▸ hle)))
  refine getMethod_strTab_get T0 ?_
  have hnew : σ a = none ∧ ¬ Fz a ∧ a ∉ f.own := by
    refine ⟨?_, fun q => ?_, fun q => ?_⟩
    · cases q : σ a with
      | none => rfl
      | some o => obtain ⟨ob, hob⟩ := (hs.sto _ _ q).1.some; exact absurd (Heap.lt_size hob) (Nat.not_lt.mpr hle)
    · obtain ⟨⟨o, ho⟩, _⟩ := hs.fz _ q; exact absurd (Heap.lt_size ho) (Nat.not_lt.mpr hle)
    · obtain ⟨_, o, ho⟩ := hs.own _ q; exact absurd (Heap.lt_size ho) (Nat.not_lt.mpr hle)
  have g1 : St C (fun b => Fz b ∨ b = a) f m σ { s with heap := h₁, toks := tk } := by
    have q := g0.1
    refine ⟨q.keep, q.above, q.loc, fun a' o' e => ?_, fun b hb => ?_, q.gens, q.os, q.own, q.loWn, fun x c hc => (q.cellsIn x c hc).imp id .inl⟩
    · obtain ⟨c1, c2, c3, c4⟩ := q.sto a' o' e
      exact ⟨c1, c2, fun z => z.elim c3 fun z => (by subst z; rw [hnew.1] at e; cases e), c4⟩
    · rcases hb with hb | rfl
      · exact q.fz b hb
      · exact ⟨⟨o, ho⟩, hnew.2.2⟩
  refine callWith_any (C := C) (K' := K C.w.params) .bi hp (h.run ha g1 fun us m₂ σ₂ s₂ h2 k2 q2 => ⟨C.X.keeps h2.keep, ?_⟩)
  obtain ⟨x, y, z, hus, hz, q2⟩ := q2
  obtain ⟨u1, u2, rfl, e1, e2⟩ := map_er2 hus
  obtain ⟨t1, rfl⟩ := er_str e1
  obtain ⟨t2, rfl⟩ := er_str e2
  have T2 : StrTab prog C.w s₂.heap a D := by
    obtain ⟨lo, xs, hd, hf⟩ := T0
    obtain ⟨o', ho', hd'⟩ := Heap.dictOf_iff.mp hd
    exact ⟨lo, xs, Heap.dictOf_iff.mpr ⟨o', (k2 a (.inr rfl)).trans ho', hd'⟩, hf⟩
  refine call_get2_strTab T2 (dd := .str y) (fun _ => .str y t2) fun v hv => ?_
  rw [hz] at hv
  have ev : er v = S z := by
    have q := hv {}
    cases q; rfl
  have h2' : St C Fz f m₂ σ₂ s₂ := h2.thaw (fun b hb => .inl hb) fun x c hc => hs.cellsIn x c hc
  exact ⟨m₂, σ₂, h2'.toks rfl rfl rfl, fun b hb => (k2 b (.inl hb)).trans (g0.2 b hb), (by show Q (er v) m₂ σ₂; rw [ev]; exact q2)⟩
end
end Mine
end
section
open PySem PySem.W PySem.Calls PyProof.Rows
namespace Mine
section
variable {prog : Program} {K : Params → Frag} {n : Nat} {ns : List (Str × NameKind)}
variable {C : Cx prog K} {f : Fx n ns} {m : LM} {σ : Store}

theorem comp_core {elt iter target : Expr} {ifs : List Expr} {rest : List Comprehension} {scope : Scope} {pos pos0 : Pos} {use : Option (Value → Sem Unit)} {Qv : Value → Shared → Prop} {R : Addr → LM → Store → Prop} (ok : ScopeOk ns scope) (ha : AOk n f.A) {Fz : Addr → Prop} {s : Shared} (hst : St C Fz f m σ s)
    (hfree : ∀ y, (y, NameKind.free) ∈ scope.names → ∃ v, m.lookup y = some v)
    (h : TE C f m σ iter (fun v m₁ σ₁ => m₁ = m ∧ ∃ k items, v = SK.val k ∧ k.holds σ₁ items ∧ ∀ D, σ₁ D = none → ∀ fc : Fx n (relabelNs ns scope.names),
      CompCode C fc (cellsOf ns scope.names m) (upd σ₁ D (.list .plain [])) (.ListComp elt (⟨target, iter, ifs, 0⟩ :: rest) scope pos) k D (fun σ' => R D m σ')))
    (hs : ∀ x, foldedSetIterable iter f.env x = pure x)
    (hfin : ∀ D L fl σ' s', St C (fun b => Fz b ∨ b = L) f m σ' s' → C.top.get? L = none → ¬ Fz L → (∀ x c, f.env.cells.lookup x = some c → c ≠ L ∧ (c ∈ f.own ∨ Fz c)) → (∃ ml, s'.heap.Ns L ml) → (∀ b, Fz b → s'.heap.get? b = s.heap.get? b) → R D m σ' →
      compPost (model prog C.w) f.A (fun _ _ => False) use Qv (.ref D) L (.ok fl) s') :
    wpAny (model prog C.w) f.A (comprehension (.ListComp elt (⟨target, iter, ifs, 0⟩ :: rest) scope pos) scope f.env pos0 (newList []) false (eval iter f.env) use) Qv (fun _ _ => False) s := by
  have hcl : ∀ x ∈ scope.names, x.2 = .free → ∃ c, f.env.cells.lookup x.1 = some c := fun x hx hk => by
    obtain ⟨y, k⟩ := x
    simp only at hk; subst hk
    obtain ⟨v, hv⟩ := hfree y hx
    have := List.all_eq_true.mp ok.free _ hx
    have hc : f.env.kindOf y = some .cell := f.kind_of (by simpa using this)
    obtain ⟨c, u, h1, _⟩ := hst.loc.cells y v hv (.inl hc)
    exact ⟨c, h1⟩
  generalize hclv : scope.names.foldl (fun c x => clStep f.env x c) [] = cl
  have hclos : closureFor scope f.env = pure cl := by rw [← hclv]; exact closure_of hcl
  obtain ⟨cl1, cl2⟩ := clStep_lookup f.env scope.names [] hcl (fun y c q => by cases q)
  rw [hclv] at cl1 cl2
  refine wpAny_comprehension_free (use := use) rfl hs hclos ok.kind (fun x hx hl => ?_) (h.run ha hst fun v m₁ σ₁ s₁ h1 k1 q1 => ?_)
  · have := List.all_eq_true.mp ok.locals x hx
    simp only [hl, bne_self_eq_false, Bool.false_or, beq_iff_eq] at this
    exact this
  obtain ⟨rfl, k, items, e, hh, q1⟩ := q1
  have e' : v = k.val := by cases k <;> exact er_ref e
  subst e'
  refine SK.iter h1 hh fun ob hfo hat => ?_
  generalize hIt : s₁.heap.objs.size = It at *
  have g0 := h1.grow (s' := { s₁ with heap := s₁.heap.push ob }) (σ' := σ₁) (fun b o e => Heap.get?_push_of_some _ e) (fun a o e => .inl e) rfl rfl
  have hfr := Owns.fresh h1
  rw [hIt] at hfr
  have hTop : C.top.get? It = none := by
    cases z : C.top.get? It with
    | none => rfl
    | some o => exact absurd (Heap.lt_size (h1.keep _ _ z)) (by rw [hIt]; exact Nat.lt_irrefl _)
  refine wpAny_newObj_type ?_
  generalize hs2 : ({ s₁ with heap := s₁.heap.push ob } : Shared) = s₂ at *
  have g1 := g0.1.push (ob := { cls := .type "list", data := .seq ([] : List Value).toArray }) (o := .list .plain []) s₂.toks rfl (fun h' e => ⟨_, _, e, rfl⟩)
  have hfr2 := Owns.fresh g0.1
  generalize hD : s₂.heap.objs.size = D at *
  have hItlt : It < D := by rw [← hD, ← hs2, ← hIt]; simp [Heap.size_push]
  have hTopD : C.top.get? D = none := by
    cases z : C.top.get? D with
    | none => rfl
    | some o => exact absurd (Heap.lt_size (g0.1.keep _ _ z)) (by rw [hD]; exact Nat.lt_irrefl _)
  generalize hs3 : ({ s₂ with heap := s₂.heap.push { cls := .type "list", dict := none, data := .seq ([] : List Value).toArray } } : Shared) = s₃ at *
  have g1' : St C Fz f m₁ (upd σ₁ D (.list .plain [])) s₃ := g1.1
  have k3 : ∀ b, Fz b → s₃.heap.get? b = s.heap.get? b := fun b hb => by rw [← hs3]; exact (g1.2 b hb).trans ((g0.2 b hb).trans (k1 b hb))
  have hat3 : k.at s₃.heap It 0 := by
    rw [← hs3]
    obtain ⟨o, ho⟩ := hat.ex
    rw [← hs2]
    exact hat.same ((Heap.get?_push_of_some _ ho).trans ho.symm)
  have hfr3 := Owns.fresh g1'
  refine wpAny_newFunctionEnv (fun x hx => ?_) (fun x hx => by cases hx) (fun h' hns hsb => ?_) ok.kind
  · have := List.all_eq_true.mp ok.nocell x hx
    simpa using this
  generalize hL : s₃.heap.objs.size = L at *
  have up : ∀ b o, s₃.heap.get? b = some o → h'.get? b = some o ∧ b ≠ L := fun b o e => by
    have hb : b ≠ L := by rw [← hL]; exact Nat.ne_of_lt (Heap.lt_size e)
    exact ⟨(hsb.2 b hb).trans (Heap.get?_push_of_some _ e), hb⟩
  have hTopL : C.top.get? L = none := by
    cases z : C.top.get? L with
    | none => rfl
    | some o => exact absurd (Heap.lt_size (g1'.keep _ _ z)) (by rw [hL]; exact Nat.lt_irrefl _)
  let fc : Fx n (relabelNs ns scope.names) := ⟨f.A, compEnvC scope cl L f.env, [L], relabel_names scope f, ok.kind, f.hg, f.hb⟩
  have hItF : ¬ (Fz It ∨ It ∈ f.own) := fun q => q.elim hfr.2.1 hfr.2.2
  obtain ⟨oL, eL, epL, hoL, hdL, hrL⟩ := hns
  have hstc : St C (fun b => (Fz b ∨ b ∈ f.own) ∨ b = It) fc (cellsOf ns scope.names m₁) (upd σ₁ D (.list .plain [])) { s₃ with heap := h', toks := s₃.toks + ([] : List (Str × Value)).length } := by
    refine ⟨fun b o e => (up b o (g1'.keep b o e)).1, (by show C.top.objs.size ≤ L; rw [← hL]; exact C.sizes s₃.heap g1'.keep), ⟨⟨_, ⟨oL, eL, epL, hoL, hdL, hrL⟩, fun x v hv hkx => ?_⟩, fun x v hv _ => ?_, fun x c hc => ?_⟩, fun a o e => ?_, fun b hb => ?_, g1'.gens, g1'.os, fun b hb => ?_, List.mem_singleton.mpr rfl, fun x c hc => ?_⟩
    · have := (lookup_cellsOf hv).2
      have hk2 : (relabelNs ns scope.names).lookup x = some .local := by rw [← relabel_names scope f]; exact hkx
      rw [this] at hk2; cases hk2
    · obtain ⟨hv1, hv2⟩ := lookup_cellsOf hv
      obtain ⟨hm, hk⟩ := relabel_cell ok.nocell hv2
      obtain ⟨c, u, h1', ⟨o, ho, hdo⟩, hu⟩ := g1'.loc.cells x v hv1 (.inl (f.kind_of hk))
      have hs := cl2 x (.inl hm)
      cases q : cl.lookup x with
      | none => rw [q] at hs; cases hs
      | some c' =>
        have := cl1 x c' q
        rw [h1'] at this
        cases this
        exact ⟨c, u, q, ⟨o, (up c o ho).1, hdo⟩, hu⟩
    · obtain ⟨v, o, ho, hdo⟩ := g1'.loc.cellEx x c (cl1 x c hc)
      exact ⟨v, o, (up c o ho).1, hdo⟩
    · obtain ⟨c1, c2, c3, c4⟩ := g1'.sto a o e
      obtain ⟨ob', hob⟩ := c1.some
      obtain ⟨u1, u2⟩ := up a ob' hob
      refine ⟨c1.same (u1.trans hob.symm), c2, fun q => ?_, fun q => u2 (List.mem_singleton.mp q)⟩
      rcases q with (q | q) | rfl
      · exact c3 q
      · exact c4 q
      · rcases upd_cases e with ⟨rfl, _⟩ | ⟨_, e⟩
        · exact absurd hItlt (Nat.lt_irrefl _)
        · rw [hfr.1] at e; cases e
    · rcases hb with (hb | hb) | rfl
      · obtain ⟨⟨o, ho⟩, _⟩ := g1'.fz b hb
        exact ⟨⟨o, (up b o ho).1⟩, fun q => (up b o ho).2 (List.mem_singleton.mp q)⟩
      · obtain ⟨_, o, ho⟩ := g1'.own b hb
        exact ⟨⟨o, (up b o ho).1⟩, fun q => (up b o ho).2 (List.mem_singleton.mp q)⟩
      · obtain ⟨o, ho⟩ := hat3.ex
        exact ⟨⟨o, (up b o ho).1⟩, fun q => (up b o ho).2 (List.mem_singleton.mp q)⟩
    · rw [List.mem_singleton.mp hb]
      exact ⟨hTopL, oL, hoL⟩
    · have := cl1 x c hc
      exact .inr (.inl (g1'.cellsIn x c this).symm)
  have hatc : k.at h' It 0 := by
    obtain ⟨o, ho⟩ := hat3.ex
    exact hat3.same ((up It o ho).1.trans ho.symm)
  have run := q1 D hfr2.1 fc ha (fun b => Fz b ∨ b ∈ f.own) _ It hstc hatc hTop hItF (fun x c hc => by
    have := cl1 x c hc
    have hin := (g1'.cellsIn x c this).symm
    exact ⟨fun z => hItF (z ▸ hin), .inr hin⟩)
  have fin : codeAny (model prog C.w) f.A (.compLoop (.ListComp elt (⟨target, iter, ifs, 0⟩ :: rest) scope pos) 0 (.ref It) (.ref D) (compEnvC scope cl L f.env))
      (compPost (model prog C.w) f.A (fun _ _ => False) use Qv (.ref D) L) { s₃ with heap := h', toks := s₃.toks + ([] : List (Str × Value)).length } := by
    refine codeAny_mono run fun r s' z => ?_
    obtain ⟨fl, m', σ', rfl, h2, k2, q2⟩ := z
    have neL : ∀ b o, s₃.heap.get? b = some o → (Fz b ∨ b ∈ f.own) → s'.heap.get? b = some o := fun b o e hb => (k2 b hb).trans (up b o e).1
    have hcellsL : ∀ x c, f.env.cells.lookup x = some c → c ≠ L ∧ (c ∈ f.own ∨ Fz c) := fun x c hc => by
      have hin := g1'.cellsIn x c hc
      refine ⟨?_, hin⟩
      rcases hin with hin | hin
      · obtain ⟨_, o, ho⟩ := g1'.own _ hin; exact (up c o ho).2
      · obtain ⟨⟨o, ho⟩, _⟩ := g1'.fz _ hin; exact (up c o ho).2
    refine hfin D L fl σ' s' ⟨h2.keep, g1'.above, ?_, fun a o e => ?_, fun b hb => ?_, h2.gens, h2.os, fun b hb => ?_, g1'.loWn, fun x c hc => (g1'.cellsIn x c hc).imp id .inl⟩ hTopL hfr3.2.1 hcellsL (let ⟨ml, hml, _⟩ := h2.loc.ns; ⟨ml, hml⟩) (fun b hb => ?_) q2
    · refine g1'.loc.same ?_ fun x c hc => ?_
      · obtain ⟨_, o, ho⟩ := g1'.own _ g1'.loWn
        exact (neL _ o ho (.inr g1'.loWn)).trans ho.symm
      · rcases g1'.cellsIn x c hc with hin | hin
        · obtain ⟨_, o, ho⟩ := g1'.own _ hin; exact (neL _ o ho (.inr hin)).trans ho.symm
        · obtain ⟨⟨o, ho⟩, _⟩ := g1'.fz _ hin; exact (neL _ o ho (.inl hin)).trans ho.symm
    · obtain ⟨c1, c2, c3, c4⟩ := h2.sto a o e
      exact ⟨c1, c2, fun q => q.elim (fun q => c3 (Or.inl q)) (fun q => c4 (List.mem_singleton.mpr q)), fun q => c3 (Or.inr q)⟩
    · rcases hb with hb | rfl
      · obtain ⟨⟨o, ho⟩, hn⟩ := g1'.fz b hb
        exact ⟨⟨o, neL b o ho (.inl hb)⟩, hn⟩
      · exact ⟨(h2.own _ (List.mem_singleton.mpr rfl)).2, hfr3.2.2⟩
    · obtain ⟨ht, o, ho⟩ := g1'.own b hb
      exact ⟨ht, o, neL b o ho (.inr hb)⟩
    · obtain ⟨⟨o, ho⟩, _⟩ := g1'.fz b hb
      obtain ⟨u1, u2⟩ := up b o ho
      exact (k2 b (.inl hb)).trans ((u1.trans ho.symm).trans (k3 b hb))
  exact codeAny_compStart_list fin (SK.again hatc fin)

theorem TX_AssignCompG {elt iter target : Expr} {ifs : List Expr} {rest : List Comprehension} {scope : Scope} {pos : Pos} {y : Str} {py spos : Pos} {Q : Flow → LM → Store → Prop} (ok : ScopeOk ns scope)
    (hfree : ∀ y, (y, NameKind.free) ∈ scope.names → ∃ v, m.lookup y = some v)
    (h : TE C f m σ iter (fun v m₁ σ₁ => m₁ = m ∧ ∃ k items, v = SK.val k ∧ k.holds σ₁ items ∧ ∀ D, σ₁ D = none → ∀ fc : Fx n (relabelNs ns scope.names),
      CompCode C fc (cellsOf ns scope.names m) (upd σ₁ D (.list .plain [])) (.ListComp elt (⟨target, iter, ifs, 0⟩ :: rest) scope pos) k D (fun σ' => Q .next ((y, .ref D) :: m) σ')))
    (hsw : swapsWith (.ListComp elt (⟨target, iter, ifs, 0⟩ :: rest) scope pos) (some (.Name y py)) spos.line f.env = pure true)
    (hy : Stor C f y) (hs : ∀ x, foldedSetIterable iter f.env x = pure x := by intro _; rfl) :
    TX C f m σ (exec (.Assign [.Name y py] (.ListComp elt (⟨target, iter, ifs, 0⟩ :: rest) scope pos) spos) f.env) Q := fun ha Fz s hst => by
  rw [exec_Assign_Name_used _ _ _ _ hsw]
  refine wpAny_bind (wpAny_standAt (wpAny_bind ?_))
  show wpAny _ f.A (do let _ ← comprehension (.ListComp elt (⟨target, iter, ifs, 0⟩ :: rest) scope pos) scope f.env _ (newList []) false (eval iter f.env) (some (assign (.Name y py) f.env))) _ _ s
  refine wpAny_bind (wpAny_mono (comp_core (use := some (assign (.Name y py) f.env)) (R := fun D m σ' => Q .next ((y, .ref D) :: m) σ') (Qv := fun _ s' => ∃ m' σ', St C Fz f m' σ' s' ∧ (∀ b, Fz b → s'.heap.get? b = s.heap.get? b) ∧ Q (erF .next) m' σ') ok ha hst hfree h hs ?_) (fun _ s' hq => wpAny_pure (wpAny_pure hq)) fun _ _ e => e)
  intro D L fl σ' s' hSt hTop hL hcells hns hk hq
  show wpAny _ _ (assign (.Name y py) f.env (.ref D)) _ _ _
  refine wpAny_assign_Name (T.run (hy (.ref D) m σ' (fun _ m' σ'' => m' = (y, .ref D) :: m ∧ σ'' = σ') ⟨rfl, rfl⟩) ha hSt fun _ m₂ σ₂ s₂ h2 k2 q2 => ?_)
  obtain ⟨rfl, rfl⟩ := q2
  obtain ⟨ml, o, es, ep, ho, r⟩ := hns
  refine ⟨ml, ⟨o, es, ep, (k2 L (.inr rfl)).trans ho, r⟩, fun h' hsb => ⟨_, _, h2.touch (s' := { s₂ with heap := h' }) (.inr rfl) hTop (fun b o hb e => (hsb.2 b hb).trans e) (fun b hb => ⟨.inl hb, fun z => absurd (z ▸ hb) hL⟩) hcells rfl rfl, fun b hb => ?_, hq⟩⟩
  exact (hsb.2 b (fun z => hL (z ▸ hb))).trans ((k2 b (.inl hb)).trans (hk b hb))

theorem TX_AssignListMap {elt iter : Expr} {x y : Str} {px py pos spos : Pos} {scope : Scope} {Q : Flow → LM → Store → Prop} (P : Addr → Nat → Value → Store → Prop) (N : Nat) (hN : N ≤ 1000) (ok : ScopeOk ns scope)
    (hfree : ∀ y, (y, NameKind.free) ∈ scope.names → ∃ v, m.lookup y = some v) (hx : (relabelNs ns scope.names).lookup x = some .local)
    (hP : ∀ D i w σ₁ σ₂, ExtB D σ₁ σ₂ → P D i w σ₁ → P D i w σ₂)
    (hsw : swapsWith (.ListComp elt [⟨.Name x px, iter, [], 0⟩] scope pos) (some (.Name y py)) spos.line f.env = pure true) (hy : Stor C f y)
    (h : TE C f m σ iter (fun v m₁ σ₁ => m₁ = m ∧ Ext σ σ₁ ∧ ∃ k items, v = SK.val k ∧ k.holds σ₁ items ∧ items.length = N ∧ ∀ D, σ₁ D = none →
      (∀ (fc : Fx n (relabelNs ns scope.names)) i v m₂ σ₂, items[i]? = some v → (∀ y, y ≠ x → m₂.lookup y = (cellsOf ns scope.names m).lookup y) → Ext σ₁ σ₂ → (∃ vs, σ₂ D = some (.list .plain vs)) →
        TE C fc ((x, v) :: m₂) σ₂ elt (fun w m₃ σ₃ => m₃ = (x, v) :: m₂ ∧ Ext σ₂ σ₃ ∧ P D i w σ₃)) ∧
      (∀ σ₂ ws, Ext σ₁ σ₂ → σ₂ D = some (.list .plain ws) → ws.length = N → (∀ i w, ws[i]? = some w → P D i w σ₂) → Q .next ((y, .ref D) :: m) σ₂)))
    (hs : ∀ x, foldedSetIterable iter f.env x = pure x := by intro _; rfl) :
    TX C f m σ (exec (.Assign [.Name y py] (.ListComp elt [⟨.Name x px, iter, [], 0⟩] scope pos) spos) f.env) Q := by
  refine TX_AssignCompG ok hfree (TE.mono h fun v m₁ σ₁ q => ?_) hsw hy hs
  obtain ⟨rfl, hE, k, items, rfl, hk, hl, q⟩ := q
  refine ⟨rfl, k, items, rfl, hk, fun D hD fc ha Fz s It hst hat hTop hIt hcells => ?_⟩
  obtain ⟨q1, q2⟩ := q D hD
  refine codeAny_mono (comp_loop (items := items) (Inv := fun i m₂ σ₂ => (∀ y, y ≠ x → m₂.lookup y = (cellsOf ns scope.names m₁).lookup y) ∧ Ext σ₁ σ₂ ∧ ∃ ws, σ₂ D = some (.list .plain ws) ∧ ws.length = i ∧ i ≤ items.length ∧ ∀ j w, ws[j]? = some w → P D j w σ₂) ha hst hat hTop hIt (fun _ _ => trivial) hcells hx ?_ ?_ ?_) fun r s' z => ?_
  · exact ⟨fun _ _ => rfl, Ext.new hD, [], upd_self .., rfl, Nat.zero_le _, fun j w e => by simp at e⟩
  · rintro i m₂ σ₂ ⟨_, h2, _⟩
    cases k with
    | lst a => obtain ⟨r, e⟩ := hk; exact ⟨r, h2 _ _ e⟩
    | tpl a => exact h2 _ _ hk
    | rng a lo hi st => exact ⟨h2 _ _ hk.1, hk.2⟩
  · rintro i v m₂ σ₂ hv ⟨h1, h2, ws, hw, hwl, hil, hPw⟩
    refine TE.mono (q1 fc i v m₂ σ₂ hv h1 h2 ⟨ws, hw⟩) fun w m₃ σ₃ ⟨e, hE3, hp⟩ => ?_
    subst e
    have hwD := hE3 _ _ hw
    have hlt : i < items.length := (List.getElem?_eq_some_iff.mp hv).1
    refine ⟨.plain, ws, hwD, by omega, fun y hy => ?_, (h2.trans hE3).own hD, ws ++ [w], upd_self .., by simp [hwl], by omega, fun j u e => ?_⟩
    · rw [lookup_cons_ne hy]; exact h1 y hy
    · rw [List.getElem?_append] at e
      split at e
      · exact hP D j u _ _ ((hE3.toB D).trans ExtB.at) (hPw j u e)
      · rename_i hj
        have : j = i := by
          rw [List.getElem?_singleton] at e
          split at e
          · omega
          · cases e
        subst this
        have : w = u := by
          rw [show j - ws.length = 0 by omega] at e
          simpa using e
        subst this
        exact hP D j w _ _ ExtB.at hp
  · obtain ⟨fl, m', σ', rfl, h2, k2, h1', h2', ws, hw, hwl, hil, hPw⟩ := z
    exact ⟨fl, m', σ', rfl, h2, k2, q2 σ' ws h2' hw (by omega) hPw⟩
end
end Mine
end
section
open PySem PySem.W PySem.Calls PyProof.Rows
namespace Mine
section
variable {prog : Program} {K : Params → Frag} {n : Nat} {ns : List (Str × NameKind)}
variable {C : Cx prog K} {f : Fx n ns} {m : LM} {σ : Store}

theorem raw_def {fa : Addr} {body : List Stmt} {names : List Str} {args : List Value} (hd : DefOk (K C.w.params) fa n names ns body args) {A : Around} (ha : AOk (n + 1) A) {Fz : Addr → Prop} {s : Shared} {ws : List Value} (hws : ws.map er = args)
    (hOw : Owns C Fz σ s) {R : Result → Shared → Prop}
    (h : ∀ (f : Fx n ns) (s₀ : Shared), f.A = Around.deeper A f.env → f.env.frame = some f.env.locals → f.own = [f.env.locals] → s.heap.get? f.env.locals = none → (∀ b o, s.heap.get? b = some o → s₀.heap.get? b = some o) →
      St C Fz f (names.zip args) σ s₀ → AOk n f.A →
      wpAny (model prog C.w) f.A (execs body f.env) (fun fl s' => R (.ok (.ret (retOf fl))) s') (fun e s' => wpAny (model prog C.w) f.A (leaving f.env e) (fun _ s'' => R (.error e) s'') (fun e' s'' => R (.error e') s'') s') s₀) :
    codeAny (model prog C.w) A (.call (.ref fa) ⟨ws, []⟩) R s := by
  obtain ⟨o, fd, ho, hd, hb, hcode, hbind, hdis, hloc, hcell, hcl, hco, hgen, hk, hns, hgl, hbl⟩ := hd.out
  have hX := C.X.keeps hOw.1
  have hnd := nodup_of_distinct hdis
  refine codeAny_call_def (binds := names.zip ws) (by have := ha.1; unfold recursionLimit; omega) (hX _ _ ho) hd (C.nolimit.keeps hOw.1) (codeRec_of hX hcode) hb (BindsTo.of_eq (hbind ws hws)) (fun x hx => ?_) (fun x hx => ?_) (fun h₀ hn hkeep => ?_) hco hgen hk
  · have := List.all_eq_true.mp hcell x hx
    simpa using this
  · have := List.all_eq_true.mp hloc x.1 (List.of_mem_zip hx).1
    simpa using this
  · have hsz : ∀ b o, s.heap.get? b = some o → b ≠ s.heap.objs.size := fun b o e => Nat.ne_of_lt (Heap.lt_size e)
    let fx : Fx n ns := ⟨Around.deeper A (callEnv fd s.heap.objs.size fa), callEnv fd s.heap.objs.size fa, [s.heap.objs.size], hns, hk, hgl, hbl⟩
    have hst : St C Fz fx (names.zip args) σ { s with heap := h₀, toks := s.toks + (names.zip ws).length } := by
      refine ⟨fun b o e => hkeep b o (hOw.1 b o e), C.sizes s.heap hOw.1, ⟨⟨_, hn, fun x v hv _ => ?_⟩, fun x v hv hkc => ?_, fun x c hc => ?_⟩, fun a o e => ?_, fun b hb => ?_, hOw.2.2.2.1, hOw.2.2.2.2, fun b hb => ?_, List.mem_singleton.mpr rfl, fun x c hc => ?_⟩
      · have e : names.zip args = (names.zip ws).map fun p => (p.1, er p.2) := by
          rw [← hws, List.zip_map_right]
          rfl
        rw [e, lookup_er] at hv
        rw [lookup_reverse (zip_fst hnd)]
        exact hv
      · exfalso
        have hkk : fd.scope.names.lookup x = some .cell ∨ fd.scope.names.lookup x = some .free := hkc
        obtain ⟨u, hu⟩ := mem_of_lookup hv
        have := List.all_eq_true.mp hloc x (List.of_mem_zip hu).1
        rcases hkk with q | q <;> rw [q] at this <;> cases this
      · have : fx.env.cells = [] := hcl
        rw [this] at hc
        cases hc
      · obtain ⟨h1, h2, h3⟩ := hOw.2.1 a o e
        obtain ⟨ob, hob⟩ := h1.some
        exact ⟨h1.same ((hkeep _ _ hob).trans hob.symm), h2, h3, fun z => hsz _ _ hob (List.mem_singleton.mp z)⟩
      · obtain ⟨o, ho'⟩ := hOw.2.2.1 b hb
        exact ⟨⟨o, hkeep _ _ ho'⟩, fun z => hsz _ _ ho' (List.mem_singleton.mp z)⟩
      · rw [List.mem_singleton.mp hb]
        obtain ⟨o, _, _, ho', _⟩ := hn
        exact ⟨Heap.notFreshTop hOw.1, o, ho'⟩
      · have : fx.env.cells = [] := hcl
        rw [this] at hc
        cases hc
    refine wpAny_mono (h fx _ rfl rfl rfl (get?_size_none _) hkeep hst ⟨?_, ?_, ha.2.2⟩) (fun fl s' q => ?_) fun _ _ x => x
    · have := ha.1; show A.depth + 1 + n ≤ 900; omega
    · have := ha.2.1; show A.units + 3 + 10 * n ≤ 9000; omega
    · cases fl <;> exact q

structure Fly (C : Cx prog K) (l : List Env) (e : Addr) (cls : Value) (σ : Store) (s s' : Shared) : Prop where
  fly : ∃ base t, C.top.StaysIn base ∧ (∀ a o, σ a = some o → Conc base a o) ∧ Heap.FlyingW base l e cls (.ref t) s'.heap
  slots : ∀ env ∈ l, ∀ L o, env.frame = some L → s.heap.get? L = some o → (∀ vs, o.data ≠ .fields vs) → ∃ sl, s'.heap.get? L = some { o with slots := sl }
  gens : s'.gens = #[]
  os : s'.os = C.os

noncomputable def SpecR (C : Cx prog K) (n : Nat) (fv : Value) (args : List Value) (σ : Store) (cls : Value) : Prop :=
  ∀ A outer, AOk n A → A.frames = some outer → ∀ Fz s ws, ws.map er = args → Owns C Fz σ s → s.heap.FunFrames C.top outer → (∀ env ∈ outer, ∀ L, env.frame = some L → Fz L) →
    codeAny (model prog C.w) A (.call fv ⟨ws, []⟩) (fun r s' => ∃ a, r = .error (.ref a) ∧ Fly C outer a cls σ s s') s

structure FrOk (f : Fx n ns) (outer : List Env) : Prop where
  frames : f.A.frames = some (f.env :: outer)
  frame : f.env.frame = some f.env.locals
  own : f.own = [f.env.locals]

noncomputable def TR {α : Type} (C : Cx prog K) (f : Fx n ns) (outer : List Env) (m : LM) (σ : Store) (t : Sem α) (cls : Value) : Prop :=
  AOk n f.A → ∀ Fz s, St C Fz f m σ s → s.heap.FunFrames C.top outer → (∀ env ∈ outer, ∀ L, env.frame = some L → Fz L) →
    wpAny (model prog C.w) f.A t (fun _ _ => False) (fun e s' => wpAny (model prog C.w) f.A (leaving f.env e) (fun _ s'' => ∃ a, e = .ref a ∧ Fly C outer a cls σ s s'') (fun _ _ => False) s') s

theorem FunFrames.mem' {h base : Heap} {l : List Env} (x : h.FunFrames base l) (env : Env) (hm : env ∈ l) : ∃ L o, env.frame = some L ∧ base.get? L = none ∧ h.get? L = some o ∧ ∀ vs, o.data ≠ .fields vs := by
  induction l with
  | nil => cases hm
  | cons e r ih =>
    rcases List.mem_cons.mp hm with rfl | hm
    · exact x.2.1
    · exact ih x.2.2 hm
theorem FunFrames.base' {h base base' : Heap} : ∀ {l : List Env}, h.FunFrames base l → (∀ env ∈ l, ∀ L, env.frame = some L → base'.get? L = none) → h.FunFrames base' l
  | [], _, _ => trivial
  | _ :: _, ⟨hk, ⟨L, o, h1, _, h3⟩, hr⟩, hm => ⟨hk, ⟨L, o, h1, hm _ (.head _) L h1, h3⟩, FunFrames.base' hr fun env he => hm env (.tail _ he)⟩
theorem FunFrames.heap' {h h' base : Heap} : ∀ {l : List Env}, h.FunFrames base l → (∀ env ∈ l, ∀ L, env.frame = some L → h'.get? L = h.get? L) → h'.FunFrames base l
  | [], _, _ => trivial
  | e :: _, ⟨hk, ⟨L, o, h1, h2, h3, h4⟩, hr⟩, hm => ⟨hk, ⟨L, o, h1, h2, (hm e (.head _) L h1).trans h3, h4⟩, FunFrames.heap' hr fun env he => hm env (.tail _ he)⟩
theorem St.ownFrame {Fz : Addr → Prop} {s : Shared} {outer : List Env} (h : St C Fz f m σ s) (fo : FrOk f outer) (hf : s.heap.FunFrames C.top outer) : s.heap.FunFrames C.top (f.env :: outer) := by
  refine ⟨by rw [f.hk]; decide, ⟨f.env.locals, ?_⟩, hf⟩
  obtain ⟨m', ⟨o, es, ep, ho, hd, _⟩, _⟩ := h.loc.ns
  exact ⟨o, fo.frame, (h.own _ h.loWn).1, ho, fun vs q => by rw [hd] at q; cases q⟩

theorem leave_made {Fz : Addr → Prop} {s s' : Shared} {outer : List Env} {e t : Addr} {oe : Obj} {vs : Array Value} (fo : FrOk f outer) (hs : St C Fz f m σ s) (hf : s.heap.FunFrames C.top outer) (hz : ∀ env ∈ outer, ∀ L, env.frame = some L → Fz L)
    (hk : ∀ b o, s.heap.get? b = some o → s'.heap.get? b = some o) (hn : s.heap.get? e = none) (he : s'.heap.get? e = some oe) (hd : oe.data = .fields vs) (h0 : vs[0]? = some (.ref t)) (h1 : vs[1]? = some .none) (hg : s'.gens = s.gens) (ho : s'.os = s.os) :
    wpAny (model prog C.w) f.A (leaving f.env (.ref e)) (fun _ s'' => ∃ a, Value.ref e = .ref a ∧ Fly C outer a oe.cls σ s s'') (fun _ _ => False) s' := by
  have F1 := hs.ownFrame fo hf
  have notIn : ∀ b, (¬ Fz b ∧ b ∉ f.own) → b ∉ (f.env :: outer).filterMap (·.frame) := fun b hb hm => by
    obtain ⟨env, he, hfr⟩ := List.mem_filterMap.mp hm
    rcases List.mem_cons.mp he with rfl | he
    · rw [fo.frame] at hfr; cases hfr
      exact hb.2 hs.loWn
    · exact hb.1 (hz env he b hfr)
  have hst : (hideAll s.heap ((f.env :: outer).filterMap (·.frame))).StaysIn s'.heap := fun b o q => hk b o (of_hideAll _ q)
  have hbn : ∀ env ∈ (f.env :: outer), ∀ L, env.frame = some L → (hideAll s.heap ((f.env :: outer).filterMap (·.frame))).get? L = none := fun env he L hfr => hideAll_none _ (List.mem_filterMap.mpr ⟨env, he, hfr⟩)
  have hF : s'.heap.FunFrames (hideAll s.heap ((f.env :: outer).filterMap (·.frame))) (f.env :: outer) :=
    FunFrames.base' (FunFrames.heap' F1 fun env he L hfr => by
      obtain ⟨L', o, h1, _, h3, _⟩ := FunFrames.mem' F1 env he
      rw [h1] at hfr; cases hfr
      exact (hk _ _ h3).trans h3.symm) hbn
  refine wpAny_leaving_firstW (oe := oe) (vs := vs) (a0 := .ref t) fo.frames hF fo.frame he hst ?_ hd h1 h0 fun h' hL => ?_
  · cases q : (hideAll s.heap ((f.env :: outer).filterMap (·.frame))).get? e with
    | none => rfl
    | some o => rw [of_hideAll _ q] at hn; cases hn
  · obtain ⟨k1, ⟨_, _, k2⟩, k3, k4⟩ := hL
    refine ⟨e, rfl, ⟨_, t, fun b o q => ?_, fun a o q => ?_, k1, ?_, k2, k3⟩, fun env hm L o hfr hLo hnf => ?_, hg.trans hs.gens, ho.trans hs.os⟩
    · refine hideAll_get _ (hs.keep b o q) fun hm => ?_
      obtain ⟨env, he, hfr⟩ := List.mem_filterMap.mp hm
      obtain ⟨L', o', h1, h2, _⟩ := FunFrames.mem' F1 env he
      rw [h1] at hfr; cases hfr
      rw [h2] at q; cases q
    · obtain ⟨c1, c2, c3, c4⟩ := hs.sto a o q
      obtain ⟨ob, hob⟩ := c1.some
      exact c1.same ((hideAll_get _ hob (notIn a ⟨c3, c4⟩)).trans hob.symm)
    · cases q : (hideAll s.heap ((f.env :: outer).filterMap (·.frame))).get? e with
      | none => rfl
      | some o => rw [of_hideAll _ q] at hn; cases hn
    · exact k4 L o (hk _ _ hLo) hnf

theorem leave_fly {s s' : Shared} {outer : List Env} {e : Addr} {cls : Value} (fo : FrOk f outer) (h : Fly C (f.env :: outer) e cls σ s s') :
    wpAny (model prog C.w) f.A (leaving f.env (.ref e)) (fun _ s'' => ∃ a, Value.ref e = .ref a ∧ Fly C outer a cls σ s s'') (fun _ _ => False) s' := by
  obtain ⟨base, t, h1, h2, h3⟩ := h.fly
  refine wpAny_leaves_onW fo.frames fo.frame h3 fun h' k1 k2 => ⟨e, rfl, ⟨base, t, h1, h2, k1⟩, fun env hm L o hfr hLo hnf => ?_, h.gens, h.os⟩
  obtain ⟨sl, hs⟩ := h.slots env (.tail _ hm) L o hfr hLo hnf
  obtain ⟨sl', hs'⟩ := k2 L _ hs hnf
  exact ⟨sl', hs'⟩

theorem Fly.from' {l : List Env} {e : Addr} {cls : Value} {σ σ₀ : Store} {s s₀ s' : Shared} (h : Fly C l e cls σ s s') (hE : ∀ a o, σ₀ a = some o → σ a = some o) (hk : ∀ env ∈ l, ∀ L, env.frame = some L → s.heap.get? L = s₀.heap.get? L) : Fly C l e cls σ₀ s₀ s' := by
  obtain ⟨base, t, h1, h2, h3⟩ := h.fly
  exact ⟨⟨base, t, h1, fun a o q => h2 a o (hE a o q), h3⟩, fun env hm L o hfr hLo hnf => h.slots env hm L o hfr ((hk env hm L hfr).trans hLo) hnf, h.gens, h.os⟩

theorem SpecR_def {fa : Addr} {body : List Stmt} {names : List Str} {args : List Value} {cls : Value} (hd : DefOk (K C.w.params) fa n names ns body args)
    (h : ∀ (f : Fx n ns) outer, FrOk f outer → TR C f outer (names.zip args) σ (execs body f.env) cls) : SpecR C (n + 1) (.ref fa) args σ cls := by
  intro A outer ha hfr Fz s ws hws hOw hF hz
  refine raw_def hd ha hws hOw fun f s₀ hA hfrm hown hnew hk hst hAok => ?_
  have fo : FrOk f outer := ⟨by rw [hA]; exact Around.frames_deeper hfr, hfrm, hown⟩
  have eqL : ∀ env ∈ outer, ∀ L, env.frame = some L → s₀.heap.get? L = s.heap.get? L := fun env he L hfr' => by
    obtain ⟨L', o, h1, _, h3, _⟩ := FunFrames.mem' hF env he
    rw [h1] at hfr'; cases hfr'
    exact (hk _ _ h3).trans h3.symm
  refine wpAny_mono (h f outer fo hAok Fz s₀ hst (FunFrames.heap' hF eqL) hz) (fun _ _ x => x.elim) fun e s' q => ?_
  refine wpAny_mono q (fun _ s'' ⟨a, e', hfl⟩ => ?_) fun _ _ x => x.elim
  subst e'
  exact ⟨a, rfl, hfl.from' (fun _ _ q => q) eqL⟩

theorem T.runE {α : Type} {t : Sem α} {Q : α → LM → Store → Prop} {R : α → Shared → Prop} {E : Value → Shared → Prop} {Fz : Addr → Prop} {s : Shared} (h : T C f m σ t Q) (ha : AOk n f.A) (hs : St C Fz f m σ s)
    (k : ∀ a m' σ' s', St C Fz f m' σ' s' → (∀ b, Fz b → s'.heap.get? b = s.heap.get? b) → Q a m' σ' → R a s') : wpAny (model prog C.w) f.A t R E s :=
  wpAny_mono (h ha Fz s hs) (fun _ _ ⟨m', σ', a, b, c⟩ => k _ m' σ' _ a b c) fun _ _ x => x.elim

theorem TR.thn {α : Type} {t : Sem α} {outer : List Env} {cls : Value} {σ₀ : Store} {Fz : Addr → Prop} {s s₀ : Shared} {Q : α → Shared → Prop} (h : TR C f outer m σ t cls) (ha : AOk n f.A) (hs : St C Fz f m σ s) (hE : ∀ a o, σ₀ a = some o → σ a = some o)
    (hf : s₀.heap.FunFrames C.top outer) (hz : ∀ env ∈ outer, ∀ L, env.frame = some L → Fz L) (hk : ∀ b, Fz b → s.heap.get? b = s₀.heap.get? b) :
    wpAny (model prog C.w) f.A t Q (fun e s' => wpAny (model prog C.w) f.A (leaving f.env e) (fun _ s'' => ∃ a, e = .ref a ∧ Fly C outer a cls σ₀ s₀ s'') (fun _ _ => False) s') s := by
  have eqL : ∀ env ∈ outer, ∀ L, env.frame = some L → s.heap.get? L = s₀.heap.get? L := fun env he L hfr => hk L (hz env he L hfr)
  refine wpAny_mono (h ha Fz s hs (FunFrames.heap' hf eqL) hz) (fun _ _ x => x.elim) fun e s' q => wpAny_mono q (fun _ s'' ⟨a, e', hfl⟩ => ⟨a, e', hfl.from' hE eqL⟩) fun _ _ x => x.elim

theorem TRX_next {st : Stmt} {rest : List Stmt} {outer : List Env} {cls : Value} (h : TX C f m σ (exec st f.env) (fun fl m' σ' => fl = .next ∧ (∀ a o, σ a = some o → σ' a = some o) ∧ TR C f outer m' σ' (execs rest f.env) cls)) :
    TR C f outer m σ (execs (st :: rest) f.env) cls := fun ha Fz s hs hf hz =>
  wpAny_execs_cons (h.runE ha hs fun fl m' σ' s' h1 k1 q1 => by
    obtain ⟨e, hE, q1⟩ := q1
    cases fl <;> cases e
    exact q1.thn ha h1 hE hf hz k1)
theorem TRX_here {st : Stmt} {rest : List Stmt} {outer : List Env} {cls : Value} (h : TR C f outer m σ (exec st f.env) cls) : TR C f outer m σ (execs (st :: rest) f.env) cls := fun ha Fz s hs hf hz =>
  wpAny_execs_cons (wpAny_mono (h ha Fz s hs hf hz) (fun _ _ x => x.elim) fun _ _ x => x)
theorem TRX_If {test : Expr} {body orelse : List Stmt} {pos : Pos} {outer : List Env} {cls : Value} (h : TB C f m σ test (fun b m' σ' => b = true ∧ (∀ a o, σ a = some o → σ' a = some o) ∧ TR C f outer m' σ' (execs body f.env) cls)) :
    TR C f outer m σ (exec (.If test body orelse pos) f.env) cls := fun ha Fz s hs hf hz =>
  wpAny_If (h.runE ha hs fun b m' σ' s' h1 k1 q1 => by
    obtain ⟨rfl, hE, q1⟩ := q1
    exact q1.thn ha h1 hE hf hz k1)
theorem TRX_Expr {e : Expr} {pos : Pos} {outer : List Env} {cls : Value} (h : TR C f outer m σ (eval e f.env) cls) (hs : swapsWith e none pos.line f.env = pure false := by rfl) : TR C f outer m σ (exec (.Expr e pos) f.env) cls := fun ha Fz s hst hf hz =>
  wpAny_Expr (wpAny_mono (h ha Fz s hst hf hz) (fun _ _ x => x.elim) fun _ _ x => x) (by unfold interactive; rw [f.hk]; rfl) hs

noncomputable def CallR (C : Cx prog K) (f : Fx n ns) (outer : List Env) (σ : Store) (fv : Value) (vs : List Value) (cls : Value) : Prop :=
  ∀ m ws Fz s, ws.map er = vs → AOk n f.A → St C Fz f m σ s → s.heap.FunFrames C.top outer → (∀ env ∈ outer, ∀ L, env.frame = some L → Fz L) →
    wpAny (model prog C.w) f.A (call fv ws) (fun _ _ => False) (fun e s' => ∃ a, e = .ref a ∧ Fly C (f.env :: outer) a cls σ s s') s
theorem CallR_spec {k : Nat} {fv : Value} {vs : List Value} {outer : List Env} {cls : Value} (fo : FrOk f outer) (h : SpecR C k fv vs σ cls) (hk : k ≤ n := by decide) : CallR C f outer σ fv vs cls := by
  intro m ws Fz s hws ha hs hf hz
  refine wpAny_call (codeAny_mono (h f.A (f.env :: outer) (ha.le hk) fo.frames _ s ws hws (Owns.of hs) (hs.ownFrame fo hf) fun env he L hfr => ?_) fun r s' ⟨a, e, hfl⟩ => ?_)
  · rcases List.mem_cons.mp he with rfl | he
    · rw [fo.frame] at hfr; cases hfr; exact .inr hs.loWn
    · exact .inl (hz env he L hfr)
  · subst e
    exact ⟨a, rfl, hfl⟩

theorem eval_CallR {g : Expr} {es : List Expr} {pos : Pos} {outer : List Env} {cls : Value} {Q : Value → Shared → Prop}
    (h : TE C f m σ g (fun fv m' σ' => Callable (K C.w.params) fv ∧ (TArgs C f m' σ' pos es (fun vs _ σ₂ => (∀ a o, σ a = some o → σ₂ a = some o) ∧ CallR C f outer σ₂ fv vs cls))))
    (ha : AOk n f.A) {Fz : Addr → Prop} {s : Shared} (hs : St C Fz f m σ s) (hf : s.heap.FunFrames C.top outer) (hz : ∀ env ∈ outer, ∀ L, env.frame = some L → Fz L)
    (he : eval (.Call g es [] pos) f.env = (do callWith pos (← eval g f.env) [] (backTo pos (starEach es f.env)) (backToKw pos (keywordEach [] f.env))) := by rfl)
    (hp : ((backTo pos (starEach es f.env)).any (·.1)) = false := by rfl) :
    wpAny (model prog C.w) f.A (eval (.Call g es [] pos) f.env) Q (fun e s' => ∃ a s₁, e = .ref a ∧ Fly C (f.env :: outer) a cls σ s₁ s' ∧ ∀ b, Fz b → s₁.heap.get? b = s.heap.get? b) s := by
  refine Call_ (h.runE ha hs fun fv m' σ' s' h1 k1 q1 => ?_) he
  obtain ⟨hc, q1⟩ := q1
  have e := hc.same rfl
  rw [← e] at hc q1
  refine callWith_any hc hp (q1.runE ha h1 fun ws m₂ σ₂ s₂ h2 k2 q2 => ⟨C.X.keeps h2.keep, ?_⟩)
  have kk : ∀ b, Fz b → s₂.heap.get? b = s.heap.get? b := fun b hb => (k2 b hb).trans (k1 b hb)
  refine wpAny_mono (q2.2 m₂ ws Fz s₂ rfl ha h2 (FunFrames.heap' hf fun env he L hfr => kk L (hz env he L hfr)) hz) (fun _ _ x => x.elim) fun e s' ⟨a, e', hfl⟩ => ?_
  exact ⟨a, s₂, e', hfl.from' q2.1 fun _ _ _ _ => rfl, kk⟩

theorem TR_Call {g : Expr} {es : List Expr} {pos : Pos} {outer : List Env} {cls : Value} (fo : FrOk f outer)
    (h : TE C f m σ g (fun fv m' σ' => Callable (K C.w.params) fv ∧ (TArgs C f m' σ' pos es (fun vs _ σ₂ => (∀ a o, σ a = some o → σ₂ a = some o) ∧ CallR C f outer σ₂ fv vs cls))))
    (he : eval (.Call g es [] pos) f.env = (do callWith pos (← eval g f.env) [] (backTo pos (starEach es f.env)) (backToKw pos (keywordEach [] f.env))) := by rfl)
    (hp : ((backTo pos (starEach es f.env)).any (·.1)) = false := by rfl) : TR C f outer m σ (eval (.Call g es [] pos) f.env) cls := fun ha Fz s hs hf hz =>
  wpAny_mono (eval_CallR (Q := fun _ _ => False) h ha hs hf hz he hp) (fun _ _ x => x) fun e s' ⟨a, s₁, e', hfl, kk⟩ => by
    subst e'
    refine wpAny_mono (leave_fly fo hfl) (fun _ s'' ⟨a', e'', hfl'⟩ => ⟨a', e'', hfl'.from' (fun _ _ q => q) fun env he L hfr => kk L (hz env he L hfr)⟩) fun _ _ x => x
end
end Mine
end
section
open PySem PySem.W PySem.Calls
namespace Mine
structure Over (B : String) (bm : List Value) : Prop where
  b : bm.contains (.type B) = true
  base : bm.contains (.type "BaseException") = true
  a : bm.contains (.type "AttributeError") = false
  n : bm.contains (.type "NameError") = false

section
variable {M : Model} {A : Around} {E : Value → Shared → Prop} {h : Heap} {g : Array GenState} {d : Drawn} {t : Nat} {os : OsState}
variable {nm q : Str} {C N : Addr} {bs bm bmB : List Value} {hdct : Bool} {sn : List Str} {sub : List Value} {ab : Bool} {col : Option Bool} {dd : Option Addr} {k0 k1 k2 k3 k5 : Option Value} {B newId initId : String}

theorem x_check_new (F : ExcBaseFacts B newId initId bmB) (O : Over B bm) {rest : List Value} {Q : Unit → Shared → Prop} (hC : h.get? C = some (excClassObj nm q C N bs bm hdct sn sub ab col dd k0 k1 k2 k3 k5 newId)) (hq : Q () ⟨h, g, d, t, os⟩) :
    wpAny M A (checkBuiltinCall newId ⟨.ref C :: rest, []⟩) Q E ⟨h, g, d, t, os⟩ := by
  have hcont : (Value.ref C :: bm).contains (.type B) = true := by rw [List.contains_cons, O.b, Bool.or_true]
  have hstar := F.noStar
  simp only [checkBuiltinCall, F.newKind, F.newSplit, F.newRow]
  repeat (first | refine wpAny_loadPart_at hC ?_ | (refine wpAny_isSubtype_exc hC ?_; rw [hcont]) | refine wpAny_staticBase_exc hC ?_ | refine wpAny_madeBy_exc hC ?_ | simp only [bne_self_eq_false, Bool.false_eq_true, if_false] | wp_step)
  exact hq

theorem x_check_init (F : ExcBaseFacts B newId initId bmB) (O : Over B bm) {e : Addr} {oe : Obj} {rest : List Value} {Q : Unit → Shared → Prop} (hC : h.get? C = some (excClassObj nm q C N bs bm hdct sn sub ab col dd k0 k1 k2 k3 k5 newId)) (he : h.get? e = some oe) (hcls : oe.cls = .ref C) (hq : Q () ⟨h, g, d, t, os⟩) :
    wpAny M A (checkBuiltinCall initId ⟨.ref e :: rest, []⟩) Q E ⟨h, g, d, t, os⟩ := by
  have hcB : (Value.ref C :: bm).contains (.type B) = true := by rw [List.contains_cons, O.b, Bool.or_true]
  have hshort := F.noStar
  simp only [checkBuiltinCall, F.initKind, F.initSplit, F.initRow]
  repeat (first | (with_reducible refine wpAny_loadPart_at he ?_; rw [hcls]) | with_reducible refine wpAny_loadPart_at hC ?_ | (with_reducible refine wpAny_isSubtype_exc hC ?_; rw [hcB]) | wp_step)
  refine wpAny_onRaise ?_
  rw [show ∀ (a b : String) (n : Nat), Bind.check ⟨.positional, "*", B, .self, [⟨"args", .varPos, false⟩]⟩ a b n (List.map (fun x => x.fst) ({ pos := Value.ref e :: rest } : Args).kw) = pure () from
    fun a b n => check_star_args _ _ _ _ _ _]
  exact wpAny_pure hq
end

section
variable {prog : Program} {w : World} {A : Around} {h : Heap} {g : Array GenState} {d : Drawn} {t : Nat} {os : OsState}
variable {nm q : Str} {C N : Addr} {bs bm bmB : List Value} {hdct : Bool} {sn : List Str} {sub : List Value} {ab : Bool} {col : Option Bool} {dd : Option Addr} {k0 k1 k2 k3 k5 : Option Value} {B newId initId : String}

theorem x_new (F : ExcBaseFacts B newId initId bmB) (O : Over B bm) {R : Result → Shared → Prop} {rest : List Value} (hC : h.get? C = some (excClassObj nm q C N bs bm hdct sn sub ab col dd k0 k1 k2 k3 k5 newId))
    (hq : R (.ok (.ret (.ref (h.objs.size + 1)))) ⟨(h.push { cls := .type "tuple", data := .seq rest.toArray }).push
      { cls := .ref C, data := .fields #[.ref h.objs.size, .none, .none, .none, .bool false, .none] }, g, d, t, os⟩) (hrest : rest.length ≤ sizeLine := by size_fits) :
    codeAny (model prog w) A (.builtin newId ⟨.ref C :: rest, []⟩) R ⟨h, g, d, t, os⟩ := by
  have hends := F.ends
  have hcB : (Value.ref C :: bm).contains (.type B) = true := by rw [List.contains_cons, O.b, Bool.or_true]
  have hcA : (Value.ref C :: bm).contains (.type "AttributeError") = false := by rw [List.contains_cons, O.a]; rfl
  have hcN : (Value.ref C :: bm).contains (.type "NameError") = false := by rw [List.contains_cons, O.n]; rfl
  refine codeAny_builtinAt F.entry ?_
  unfold Builtin.«BaseException.__new__»
  refine wpAt_bind ?_
  show wpAt _ _ _ (stack >>= _) _ _ _
  refine wpAt_bind (wpAt_stack fun p below => wpAt_of_wpAny ?_)
  wp_walk
  refine wpAt_of_wpAny ?_
  rw [F.owner]
  repeat (first | with_reducible refine wpAny_madeHere_exc F.canon hC ?_ | with_reducible refine wpAny_loadPart_at hC ?_ | (with_reducible refine wpAny_isSubtype_exc hC ?_; first | rw [hcB] | rw [hcA] | rw [hcN]) | wp_step)
  show R _ _
  rw [Heap.size_push]
  exact hq

theorem x_call (F : ExcBaseFacts B newId initId bmB) (O : Over B bm) {E : Value → Shared → Prop} {rest : List Value} {fI : Addr} {oI : Obj} {Q : Value → Shared → Prop}
    (hC : h.get? C = some (excClassObj nm q C N bs bm hdct sn sub ab col dd k0 k1 k2 k3 k5 newId)) (hl : Looks (model prog w) h (typeLookup (.ref C) "__init__") (some (.ref fI))) (hfI : h.get? fI = some oI) (hfc : oI.cls = .type "function")
    (hq : ∀ h' e, Heap.MadeExcOf h h' e (.ref C) rest →
      wpAny (model prog w) (A.under (.builtin "type.__call__" ⟨.ref C :: rest, []⟩)) (call (.ref fI) (.ref e :: rest)) (fun r s' => r = .none ∧ Q (.ref e) s') E ⟨h', g, d, t, os⟩) (hrest : rest.length ≤ sizeLine := by size_fits) :
    wpAny (model prog w) A (call (.ref C) rest) Q E ⟨h, g, d, t, os⟩ := by
  have f1 := tc_lookup
  have f2 := tc_bind (.ref C)
  have hT : (⟨h, g, d, t, os⟩ : Shared).TypeIs (.ref C) "type" := ⟨_, hC, rfl⟩
  refine wpAny_call (codeAny_of_tree ?_)
  show wpAny _ _ (callAny (.ref C) _) _ _ _
  repeat (any_goals (first | assumption | with_reducible refine wpAny_loadPart_at hC ?_ | wp_step))
  refine ⟨rfl, ?_⟩
  refine codeAny_call_builtin_at (Code.quiet_builtin _ (by decide +kernel)) entry_typeCall (wpAny_check_type_call_sub hC ?_)
  repeat (first | with_reducible refine wpAny_loadPart_at hC ?_ | with_reducible refine wpAny_madeBy_exc hC ?_ | wp_step)
  refine codeAny_call_builtin_code (Code.quiet_builtin _ F.quiet) (x_check_new F O hC ?_)
  refine x_new F O hC ?_ hrest
  show wpAny _ _ _ _ _ _
  have up : ∀ b o, h.get? b = some o → ((h.push { cls := .type "tuple", data := .seq rest.toArray }).push { cls := .ref C, data := .fields #[.ref h.objs.size, .none, .none, .none, .bool false, .none] }).get? b = some o := fun b o hb =>
    Heap.get?_push_of_some _ (Heap.get?_push_of_some _ hb)
  have hC₁ := up _ _ hC
  have hfI₁ := up _ _ hfI
  have hl₁ := hl.keeps up
  have hget : ((h.push { cls := .type "tuple", data := .seq rest.toArray }).push
      { cls := .ref C, data := .fields #[.ref h.objs.size, .none, .none, .none, .bool false, .none] }).get? (h.objs.size + 1) = some
      { cls := .ref C, data := .fields #[.ref h.objs.size, .none, .none, .none, .bool false, .none] } := by heap_get
  have hcC : (Value.ref C :: bm).contains (.ref C) = true := by simp
  unfold isInstance
  repeat (first | with_reducible refine wpAny_loadPart_at hget ?_ | wp_step)
  refine wpAny_isSubtype_exc hC₁ ?_
  rw [hcC]
  repeat wp_step
  show wpAny _ _ (typeLookup (.ref C) _) _ _ _
  refine hl₁.at ?_
  refine wpAny_holding (wpAny_bind ?_)
  unfold bindSpecial
  refine wpAny_bind (wpAny_typeOf (T := "function") ⟨_, hfI₁, hfc⟩ ?_)
  rw [if_pos (by decide)]
  refine wpAny_pure (wpAny_bind (wpAny_mono (hq _ (h.objs.size + 1) ⟨up, Heap.get?_none_of_le (Nat.le_succ _), h.objs.size, hget, Heap.get?_none_of_le (Nat.le_refl _), ?_⟩) (fun r s' hr => ?_) fun _ _ x => x))
  · exact Heap.get?_push_of_some _ (Heap.get?_push_at rfl rfl)
  · obtain ⟨rfl, hQ⟩ := hr
    wp_walk
    exact hQ

theorem x_raise {M : Model} {E : Value → Shared → Prop} {env : Env} {s : Shared} {x : Sem Value} {Q : Flow → Shared → Prop} (O : Over B bm) (hh : A.handled = none)
    (hx : wpAny M A x (fun v s₁ => ∃ e t D, v = .ref e ∧ s₁.heap.get? C = some (excClassObj nm q C N bs bm hdct sn sub ab col dd k0 k1 k2 k3 k5 newId) ∧
      s₁.heap.get? e = some { cls := .ref C, dict := D, data := .fields #[.ref t, .none, .none, .none, .bool false, .none] } ∧ E (.ref e) s₁) E s) :
    wpAny M A (raiseStmt env (some x) none) Q E s := by
  have hcB : (Value.ref C :: bm).contains (.type "BaseException") = true := by rw [List.contains_cons, O.base, Bool.or_true]
  unfold raiseStmt
  refine wpAny_bind (wpAny_mono hx (fun v s₁ h₁ => ?_) fun _ _ x => x)
  obtain ⟨e, t, D, rfl, hC, he, hE⟩ := h₁
  obtain ⟨hp, g, d, tk, os⟩ := s₁
  repeat (first | with_reducible refine wpAny_loadPart_at he ?_ | with_reducible refine wpAny_loadPart_at hC ?_ | (with_reducible refine wpAny_isSubtype_exc hC ?_; rw [hcB]) | wp_step)
  exact wpAny_raiseNew_none hh hE
end
end Mine
end
section
open PySem PySem.W PySem.Calls PySem.Builtin PySem.Builtin.ObjectAttr
namespace Mine
section
variable {prog : Program} {w : World} {A : Around} {E : Value → Shared → Prop} {h : Heap} {g : Array GenState} {d : Drawn} {t : Nat} {os : OsState}
variable {nm q : Str} {C N x : Addr} {bs bm bmB : List Value} {sn : List Str} {sub : List Value} {ab : Bool} {col : Option Bool} {dd : Option Addr} {k0 k1 k2 k3 k5 : Option Value} {B newId initId sa owner : String}
  {name : Str} {v : Value}

theorem x_check_sa {M : Model} {o : Obj} {nameV : Value} {Q : Unit → Shared → Prop} (SF : StoreFacts B bmB sa owner) (hcB : (Value.ref C :: bm).contains (.type owner) = true)
    (hC : h.get? C = some (excClassObj nm q C N bs bm true sn sub ab col dd k0 k1 k2 k3 k5 newId)) (hx : h.get? x = some o) (hc : o.cls = .ref C) (hq : Q () ⟨h, g, d, t, os⟩) :
    wpAny M A (checkBuiltinCall sa ⟨[.ref x, nameV, v], []⟩) Q E ⟨h, g, d, t, os⟩ := by
  have ha := SF.args (.ref x) nameV v
  simp only [checkBuiltinCall, SF.kind, SF.split]
  refine wpAny_bind ?_
  · unfold isInstance
    repeat (first | (with_reducible refine wpAny_loadPart_at hx ?_; rw [hc]) | (with_reducible refine wpAny_isSubtype_exc hC ?_; rw [hcB]) | wp_step)
    cases hsig : Manifest.signature? sa with
    | none => exact wpAny_pure hq
    | some sig =>
      simp only [argsOk, hsig] at ha
      have h2 : Bind.checkArgs sa sig ⟨[.ref x, nameV, v], []⟩ = pure () := ha
      show wpAny M A (Bind.checkArgs sa sig ⟨[.ref x, nameV, v], []⟩) Q E _
      rw [h2]; exact wpAny_pure hq

theorem x_store {tk : Tok} {Q : Fin → Shared → Prop} (hp : refuseLoop (.ref x) "__setattr__" (.ref C :: bm) = pure ())
    (hC : h.get? C = some (excClassObj nm q C N bs bm true sn sub ab col dd k0 k1 k2 k3 k5 newId)) (hln : Looks (model prog w) h (typeLookup (.ref C) name) none)
    {vs : Array Value} (hx : h.get? x = some { cls := .ref C, data := .fields vs })
    (hq : ∀ h' tk' D, (∀ b o, b ≠ x → h.get? b = some o → h'.get? b = some o) → h'.get? x = some { cls := .ref C, dict := some D, data := .fields vs } → Q (.done (.ret .none)) ⟨h', g, d, tk', os⟩) :
    wpAny (model prog w) A (Builtin.«object.__setattr__» ⟨[.ref x, .str name tk, v], []⟩) Q E ⟨h, g, d, t, os⟩ := by
  have tI : Looks (model prog w) h (typeOf (.ref x)) (.ref C) := (Looks.ld hx).andThen .now
  have cI : Looks (model prog w) h (classData C) { name := nm, bases := bs, mro := .ref C :: bm, ns := N, qualname := q, hasDict := true, slotNames := sn, subclasses := sub, abstract := ab, collection := col, hasDel := false } := (Looks.ld (part := none) hC).andThen .now
  rw [osa_eq, refuse_eq]
  refine wpAny_bind (wpAny_bind (tI.at (wpAny_bind (wpAny_mroOf_exc hC ?_))))
  rw [hp]
  refine wpAny_pure (wpAny_bind (tI.at (wpAny_bind (hln.at (wpAny_bind (wpAny_pure (a := (none : Option Value)) ?_))))))
  refine wpAny_bind (wpAny_pure (wpAny_bind (wpAny_bind (wpAny_loadPart hx (wpAny_bind (cI.at ?_))))))
  dsimp only
  rw [if_neg (by simp)]
  rw [if_neg (by simp [typeHasDict])]
  have hx₁ : (h.push { cls := .type "dict", data := .dict #[] }).get? x = some { cls := .ref C, data := .fields vs } := Heap.get?_push_of_some _ hx
  have hxs : x ≠ h.objs.size := Nat.ne_of_lt (Heap.lt_size hx)
  refine wpAny_bind (wpAny_alloc' ?_)
  refine wpAny_bind (wpAny_update' hx₁ ?_)
  refine wpAny_pure ?_
  have hgd : ((h.push { cls := .type "dict", data := .dict #[] }).update x fun o => { cls := o.cls, dict := some h.objs.size, data := o.data, slots := o.slots }).get? h.objs.size
      = some { cls := .type "dict", data := .dict #[] } :=
    (Heap.get?_update_ne _ _ _ _ hxs.symm).trans (Heap.get?_push_at rfl rfl)
  have hnd : ((h.push { cls := .type "dict", data := .dict #[] }).update x fun o => { cls := o.cls, dict := some h.objs.size, data := o.data, slots := o.slots }).Ns h.objs.size (fun _ => none) :=
    ⟨_, #[], _, hgd, rfl, fun e he => absurd he (by simp), fun _ => rfl⟩
  show wpAny _ _ (storeInDict h.objs.size (.str name tk) name v) _ _ _
  unfold storeInDict newKeyGuard
  refine wpAny_bind (wpAny_pure (wpAny_bind (wpAny_nsSet1 (Heap.Ns1.of_empty hnd) fun h' hn' hs => ?_)))
  obtain ⟨oD, esD, epD, hoD, hdD, hcD⟩ := hn'.count (Within.cons name v Within.nil)
  refine wpAny_bind (wpAny_lookBehind hoD (by rw [hdD]; exact pastItsLine_dict (Nat.le_trans hcD (by rw [List.length_cons, List.length_nil, sizeLine_eq]; omega))) ?_)
  wp_walk
  refine hq h' _ h.objs.size (fun b ob hbx hb => ?_) ?_
  · exact (hs.2 b (Nat.ne_of_lt (Heap.lt_size hb))).trans ((Heap.get?_update_ne _ _ _ _ hbx).trans (Heap.get?_push_of_some _ hb))
  · exact (hs.2 x hxs).trans (Heap.get?_update_self _ hx₁ rfl)

theorem x_setattr {Q : Unit → Shared → Prop} (SF : StoreFacts B bmB "object.__setattr__" owner) (hcB : (Value.ref C :: bm).contains (.type owner) = true) (hp : refuseLoop (.ref x) "__setattr__" (.ref C :: bm) = pure ())
    (hC : h.get? C = some (excClassObj nm q C N bs bm true sn sub ab col dd k0 k1 k2 k3 k5 newId)) (hls : Looks (model prog w) h (typeLookup (.ref C) "__setattr__") (some (.builtin "object.__setattr__"))) (hln : Looks (model prog w) h (typeLookup (.ref C) name) none)
    {vs : Array Value} (hx : h.get? x = some { cls := .ref C, data := .fields vs })
    (hq : ∀ h' tk' D, (∀ b o, b ≠ x → h.get? b = some o → h'.get? b = some o) → h'.get? x = some { cls := .ref C, dict := some D, data := .fields vs } → Q () ⟨h', g, d, tk', os⟩) :
    wpAny (model prog w) A (setAttr (.ref x) name v) Q E ⟨h, g, d, t, os⟩ := by
  have tI : Looks (model prog w) h (typeOf (.ref x)) (.ref C) := (Looks.ld hx).andThen .now
  have key : codeAny (model prog w) A (.call (.builtin "object.__setattr__") ⟨[.ref x, .str name t, v], []⟩) (fun r s' => match r with | .ok (.ret _) => Q () s' | .ok _ => False | .error e => E e s') ⟨h, g, d, t + 1, os⟩ := by
    refine codeAny_call_builtin SF.slot.plain SF.entry ?_
    have hcc : ({ cls := .ref C, data := .fields vs } : Obj).cls = .ref C := rfl
    have ck : ∀ {Q' : Unit → Shared → Prop} {E' : Value → Shared → Prop}, Q' () ⟨h, g, d, t + 1, os⟩ → wpAny (model prog w) A.in1 (checkBuiltinCall "object.__setattr__" ⟨[.ref x, .str name t, v], []⟩) Q' E' ⟨h, g, d, t + 1, os⟩ := fun {Q' E'} hq => by
      have z := @x_check_sa A.in1 E' h g d (t + 1) os nm q C N x bs bm bmB sn sub ab col dd k0 k1 k2 k3 k5 B newId "object.__setattr__" owner v (model prog w) { cls := .ref C, data := .fields vs } (.str name t) Q' SF hcB hC hx hcc hq
      exact z
    refine ck ?_
    show wpAny (model prog w) A.in1 (Builtin.«object.__setattr__» ⟨[.ref x, .str name t, v], []⟩) _ _ _
    have key2 := @x_store prog w A.in1 (fun e s' => E e s') h g d (t + 1) os nm q C N x bs bm sn sub ab col dd k0 k1 k2 k3 k5 newId name v t (fun fin s' => match fin with | .done (.ret _) => Q () s' | _ => False) hp hC hln vs hx (fun h' tk' D hk hxx => hq h' tk' D hk hxx)
    refine wpAny_mono key2 (fun fin s' z => ?_) fun e s' z => z
    rcases fin with (v | _ | _ | _) | c <;> first | exact z | exact z.elim
  refine wpAny_bind (wpAny_mkText (wpAny_bind (wpAny_bind (wpAny_bind (tI.at (hls.at (wpAny_holding ?_)))))))
  rw [SF.slot.bind]
  refine wpAny_bind (wpAny_pure (wpAny_bind (wpAny_call (codeAny_mono key fun r s' z => ?_))))
  rcases r with e | (v | _ | _ | _) <;> first | exact z | exact wpAny_pure (wpAny_pure z)

theorem x_init (F : ExcBaseFacts B newId initId bmB) (O : Over B bm) {e tt : Addr} {Q : Value → Shared → Prop} (hC : h.get? C = some (excClassObj nm q C N bs bm true sn sub ab col dd k0 k1 k2 k3 k5 newId))
    (he : h.get? e = some { cls := .ref C, data := .fields #[.ref tt, .none, .none, .none, .bool false, .none] })
    (hq : ∀ h' t', (∀ b o, b ≠ e → h.get? b = some o → h'.get? b = some o) → h'.get? e = some { cls := .ref C, data := .fields #[.ref t', .none, .none, .none, .bool false, .none] } → Q .none ⟨h', g, d, t, os⟩) :
    wpAny (model prog w) A (call (.builtin initId) [.ref e, v]) Q E ⟨h, g, d, t, os⟩ := by
  refine wpAny_call (codeAny_call_builtin F.init.plain F.initEntry (x_check_init F O hC he rfl ?_))
  wp_walk
  refine hq _ h.objs.size (fun b o hbe hb => ?_) ?_
  · rw [Heap.get?_update_other _ _ hbe.symm]
    exact Heap.get?_push_of_some _ hb
  · rw [Heap.get?_update_self _ (Heap.get?_push_of_some _ he) rfl]
    rfl
end
end Mine
end
open PyProof.Rows
namespace Mine
theorem top_of {tb : String → Option Builtin} {p : Program} {w : World} {n₀ : Nat} {ann : Option Value} : ∀ {n : Nat} {s s' : Shared} {t : Thread} {f : Flow} {c : Code} {q : Pos}, segRun tb p w n₀ ann 0 n s t = some (f, s', c, q) → topRun tb p w n₀ ann n s t = some s'
  | 0, _, _, _, _, _, _, h => by cases h
  | n + 1, s, s', ⟨cur, code, pos, stack⟩, f, c, q, h => by
    unfold segRun at h
    unfold topRun
    have e : through ⟨cur, code, pos, stack⟩ = (endAt 0 ⟨cur, code, pos, stack⟩).isSome := by
      unfold through endAt
      cases stack with
      | nil => cases cur <;> first | rfl | (rename_i x; cases x <;> rfl)
      | cons a r => rfl
    cases he : endAt 0 ⟨cur, code, pos, stack⟩ with
    | some f' => rw [he] at h e; rw [e]; cases h; rfl
    | none =>
      rw [he] at h e
      rw [e]
      cases hk : stepOk n₀ ann ⟨cur, code, pos, stack⟩ with
      | false => rw [hk] at h; cases h
      | true =>
        rw [hk] at h
        cases hs : step (denote tb) p w s ⟨cur, code, pos, stack⟩ with
        | halt => rw [hs] at h; cases h
        | go s₂ t₂ => rw [hs] at h; exact top_of h
theorem topRun_of {tb : String → Option Builtin} {p : Program} {w : World} {n₀ : Nat} {ann : Option Value} {n : Nat} {s s' : SharedT} {t : Thread} (h : (segRunT tb p w n₀ ann 0 n s t).map (fun r => r.2.1) = some s') : topRun tb p w n₀ ann n s.abs t = some s'.abs := by
  cases e : segRunT tb p w n₀ ann 0 n s t with
  | none => rw [e] at h; cases h
  | some r =>
    rw [e] at h
    cases h
    exact top_of (segRun_of e)
noncomputable abbrev pw := PySem.Challenge.pw_nz0249_01
noncomputable def bootT (P : Params) : BT := (.node (boot_o_0 P) (.node (boot_o_1 P) (.node (boot_o_3 P) (.node (boot_o_7 P) .nil .nil) .nil) (.node (boot_o_5 P) (.node (boot_o_9 P) .nil .nil) .nil)) (.node (boot_o_2 P) (.node (boot_o_4 P) (.node (boot_o_8 P) .nil .nil) .nil) (.node (boot_o_6 P) (.node (boot_o_10 P) .nil .nil) .nil)))
theorem boot_abs (P : Params) : absHeap (bootT P) 11 (boot_heap P).life = boot_heap P := by kernel_rfl
noncomputable def startS (w : World) (os : OsState) : SharedT := ⟨bootT w.params, 11, (boot_heap w.params).life, Array.mk [], boot_drawn, boot_toks, os⟩
noncomputable def sAt : List Stmt → Nat → Stmt
  | [], _ => .Pass default
  | s :: _, 0 => s
  | _ :: r, n + 1 => sAt r n
noncomputable def inS : Stmt → List Stmt
  | .FunctionDef _ _ b _ _ _ _ _ _ _ => b
  | .ClassDef _ _ _ b _ _ _ _ _ _ _ => b
  | _ => []
noncomputable def argS : Stmt → Arguments
  | .FunctionDef _ a _ _ _ _ _ _ _ _ => a
  | _ => default
noncomputable def scoS : Stmt → Scope
  | .FunctionDef _ _ _ _ _ _ s _ _ _ => s
  | _ => default
noncomputable def topS (k : Nat) : Stmt := sAt pw.main.body k
noncomputable def methS (k j : Nat) : Stmt := sAt (inS (topS k)) j
noncomputable def o_0 (P : Params) : Obj := { cls := Value.type "dict", data := Data.dict #[{ hash := PyData.keyHash P (Str.ofString "__name__"), key := Value.str (Str.ofString "__name__") 1, val := Value.str (Str.ofString "builtins") 160 }, { hash := PyData.keyHash P (Str.ofString "__doc__"), key := Value.str (Str.ofString "__doc__") 2, val := Value.builtin "builtins.__doc__:str#opaque" }, { hash := PyData.keyHash P (Str.ofString "__package__"), key := Value.str (Str.ofString "__package__") 3, val := Value.builtin "builtins.__package__:str#opaque" }, { hash := PyData.keyHash P (Str.ofString "__loader__"), key := Value.str (Str.ofString "__loader__") 4, val := Value.builtin "builtins.__loader__:shared#opaque" }, { hash := PyData.keyHash P (Str.ofString "__spec__"), key := Value.str (Str.ofString "__spec__") 5, val := Value.builtin "builtins.__spec__#opaque" }, { hash := PyData.keyHash P (Str.ofString "__build_class__"), key := Value.str (Str.ofString "__build_class__") 6, val := Value.builtin "__build_class__" }, { hash := PyData.keyHash P (Str.ofString "__import__"), key := Value.str (Str.ofString "__import__") 7, val := Value.builtin "__import__" }, { hash := PyData.keyHash P (Str.ofString "abs"), key := Value.str (Str.ofString "abs") 8, val := Value.builtin "abs" }, { hash := PyData.keyHash P (Str.ofString "all"), key := Value.str (Str.ofString "all") 9, val := Value.builtin "all" }, { hash := PyData.keyHash P (Str.ofString "any"), key := Value.str (Str.ofString "any") 10, val := Value.builtin "any" }, { hash := PyData.keyHash P (Str.ofString "ascii"), key := Value.str (Str.ofString "ascii") 11, val := Value.builtin "ascii" }, { hash := PyData.keyHash P (Str.ofString "bin"), key := Value.str (Str.ofString "bin") 12, val := Value.builtin "bin" }, { hash := PyData.keyHash P (Str.ofString "breakpoint"), key := Value.str (Str.ofString "breakpoint") 13, val := Value.builtin "breakpoint" }, { hash := PyData.keyHash P (Str.ofString "callable"), key := Value.str (Str.ofString "callable") 14, val := Value.builtin "callable" }, { hash := PyData.keyHash P (Str.ofString "chr"), key := Value.str (Str.ofString "chr") 15, val := Value.builtin "chr" }, { hash := PyData.keyHash P (Str.ofString "compile"), key := Value.str (Str.ofString "compile") 16, val := Value.builtin "compile" }, { hash := PyData.keyHash P (Str.ofString "delattr"), key := Value.str (Str.ofString "delattr") 17, val := Value.builtin "delattr" }, { hash := PyData.keyHash P (Str.ofString "dir"), key := Value.str (Str.ofString "dir") 18, val := Value.builtin "dir" }, { hash := PyData.keyHash P (Str.ofString "divmod"), key := Value.str (Str.ofString "divmod") 19, val := Value.builtin "divmod" }, { hash := PyData.keyHash P (Str.ofString "eval"), key := Value.str (Str.ofString "eval") 20, val := Value.builtin "eval" }, { hash := PyData.keyHash P (Str.ofString "exec"), key := Value.str (Str.ofString "exec") 21, val := Value.builtin "exec" }, { hash := PyData.keyHash P (Str.ofString "format"), key := Value.str (Str.ofString "format") 22, val := Value.builtin "format" }, { hash := PyData.keyHash P (Str.ofString "getattr"), key := Value.str (Str.ofString "getattr") 23, val := Value.builtin "getattr" }, { hash := PyData.keyHash P (Str.ofString "globals"), key := Value.str (Str.ofString "globals") 24, val := Value.builtin "globals" }, { hash := PyData.keyHash P (Str.ofString "hasattr"), key := Value.str (Str.ofString "hasattr") 25, val := Value.builtin "hasattr" }, { hash := PyData.keyHash P (Str.ofString "hash"), key := Value.str (Str.ofString "hash") 26, val := Value.builtin "hash" }, { hash := PyData.keyHash P (Str.ofString "hex"), key := Value.str (Str.ofString "hex") 27, val := Value.builtin "hex" }, { hash := PyData.keyHash P (Str.ofString "id"), key := Value.str (Str.ofString "id") 28, val := Value.builtin "id" }, { hash := PyData.keyHash P (Str.ofString "input"), key := Value.str (Str.ofString "input") 29, val := Value.builtin "input" }, { hash := PyData.keyHash P (Str.ofString "isinstance"), key := Value.str (Str.ofString "isinstance") 30, val := Value.builtin "isinstance" }, { hash := PyData.keyHash P (Str.ofString "issubclass"), key := Value.str (Str.ofString "issubclass") 31, val := Value.builtin "issubclass" }, { hash := PyData.keyHash P (Str.ofString "iter"), key := Value.str (Str.ofString "iter") 32, val := Value.builtin "iter" }, { hash := PyData.keyHash P (Str.ofString "aiter"), key := Value.str (Str.ofString "aiter") 33, val := Value.builtin "aiter" }, { hash := PyData.keyHash P (Str.ofString "len"), key := Value.str (Str.ofString "len") 34, val := Value.builtin "len" }, { hash := PyData.keyHash P (Str.ofString "locals"), key := Value.str (Str.ofString "locals") 35, val := Value.builtin "locals" }, { hash := PyData.keyHash P (Str.ofString "max"), key := Value.str (Str.ofString "max") 36, val := Value.builtin "max" }, { hash := PyData.keyHash P (Str.ofString "min"), key := Value.str (Str.ofString "min") 37, val := Value.builtin "min" }, { hash := PyData.keyHash P (Str.ofString "next"), key := Value.str (Str.ofString "next") 38, val := Value.builtin "next" }, { hash := PyData.keyHash P (Str.ofString "anext"), key := Value.str (Str.ofString "anext") 39, val := Value.builtin "anext" }, { hash := PyData.keyHash P (Str.ofString "oct"), key := Value.str (Str.ofString "oct") 40, val := Value.builtin "oct" }, { hash := PyData.keyHash P (Str.ofString "ord"), key := Value.str (Str.ofString "ord") 41, val := Value.builtin "ord" }, { hash := PyData.keyHash P (Str.ofString "pow"), key := Value.str (Str.ofString "pow") 42, val := Value.builtin "pow" }, { hash := PyData.keyHash P (Str.ofString "print"), key := Value.str (Str.ofString "print") 43, val := Value.builtin "print" }, { hash := PyData.keyHash P (Str.ofString "repr"), key := Value.str (Str.ofString "repr") 44, val := Value.builtin "repr" }, { hash := PyData.keyHash P (Str.ofString "round"), key := Value.str (Str.ofString "round") 45, val := Value.builtin "round" }, { hash := PyData.keyHash P (Str.ofString "setattr"), key := Value.str (Str.ofString "setattr") 46, val := Value.builtin "setattr" }, { hash := PyData.keyHash P (Str.ofString "sorted"), key := Value.str (Str.ofString "sorted") 47, val := Value.builtin "sorted" }, { hash := PyData.keyHash P (Str.ofString "sum"), key := Value.str (Str.ofString "sum") 48, val := Value.builtin "sum" }, { hash := PyData.keyHash P (Str.ofString "vars"), key := Value.str (Str.ofString "vars") 49, val := Value.builtin "vars" }, { hash := PyData.keyHash P (Str.ofString "None"), key := Value.str (Str.ofString "None") 50, val := Value.none }, { hash := PyData.keyHash P (Str.ofString "Ellipsis"), key := Value.str (Str.ofString "Ellipsis") 51, val := Value.ellipsis }, { hash := PyData.keyHash P (Str.ofString "NotImplemented"), key := Value.str (Str.ofString "NotImplemented") 52, val := Value.notImplemented }, { hash := PyData.keyHash P (Str.ofString "False"), key := Value.str (Str.ofString "False") 53, val := Value.bool false }, { hash := PyData.keyHash P (Str.ofString "True"), key := Value.str (Str.ofString "True") 54, val := Value.bool true }, { hash := PyData.keyHash P (Str.ofString "bool"), key := Value.str (Str.ofString "bool") 55, val := Value.type "bool" }, { hash := PyData.keyHash P (Str.ofString "memoryview"), key := Value.str (Str.ofString "memoryview") 56, val := Value.type "memoryview" }, { hash := PyData.keyHash P (Str.ofString "bytearray"), key := Value.str (Str.ofString "bytearray") 57, val := Value.type "bytearray" }, { hash := PyData.keyHash P (Str.ofString "bytes"), key := Value.str (Str.ofString "bytes") 58, val := Value.type "bytes" }, { hash := PyData.keyHash P (Str.ofString "classmethod"), key := Value.str (Str.ofString "classmethod") 59, val := Value.type "classmethod" }, { hash := PyData.keyHash P (Str.ofString "complex"), key := Value.str (Str.ofString "complex") 60, val := Value.type "complex" }, { hash := PyData.keyHash P (Str.ofString "dict"), key := Value.str (Str.ofString "dict") 61, val := Value.type "dict" }, { hash := PyData.keyHash P (Str.ofString "enumerate"), key := Value.str (Str.ofString "enumerate") 62, val := Value.type "enumerate" }, { hash := PyData.keyHash P (Str.ofString "filter"), key := Value.str (Str.ofString "filter") 63, val := Value.type "filter" }, { hash := PyData.keyHash P (Str.ofString "float"), key := Value.str (Str.ofString "float") 64, val := Value.type "float" }, { hash := PyData.keyHash P (Str.ofString "frozenset"), key := Value.str (Str.ofString "frozenset") 65, val := Value.type "frozenset" }, { hash := PyData.keyHash P (Str.ofString "property"), key := Value.str (Str.ofString "property") 66, val := Value.type "property" }, { hash := PyData.keyHash P (Str.ofString "int"), key := Value.str (Str.ofString "int") 67, val := Value.type "int" }, { hash := PyData.keyHash P (Str.ofString "list"), key := Value.str (Str.ofString "list") 68, val := Value.type "list" }, { hash := PyData.keyHash P (Str.ofString "map"), key := Value.str (Str.ofString "map") 69, val := Value.type "map" }, { hash := PyData.keyHash P (Str.ofString "object"), key := Value.str (Str.ofString "object") 70, val := Value.type "object" }, { hash := PyData.keyHash P (Str.ofString "range"), key := Value.str (Str.ofString "range") 71, val := Value.type "range" }, { hash := PyData.keyHash P (Str.ofString "reversed"), key := Value.str (Str.ofString "reversed") 72, val := Value.type "reversed" }, { hash := PyData.keyHash P (Str.ofString "set"), key := Value.str (Str.ofString "set") 73, val := Value.type "set" }, { hash := PyData.keyHash P (Str.ofString "slice"), key := Value.str (Str.ofString "slice") 74, val := Value.type "slice" }, { hash := PyData.keyHash P (Str.ofString "staticmethod"), key := Value.str (Str.ofString "staticmethod") 75, val := Value.type "staticmethod" }, { hash := PyData.keyHash P (Str.ofString "str"), key := Value.str (Str.ofString "str") 76, val := Value.type "str" }, { hash := PyData.keyHash P (Str.ofString "super"), key := Value.str (Str.ofString "super") 77, val := Value.type "super" }, { hash := PyData.keyHash P (Str.ofString "tuple"), key := Value.str (Str.ofString "tuple") 78, val := Value.type "tuple" }, { hash := PyData.keyHash P (Str.ofString "type"), key := Value.str (Str.ofString "type") 79, val := Value.type "type" }, { hash := PyData.keyHash P (Str.ofString "zip"), key := Value.str (Str.ofString "zip") 80, val := Value.type "zip" }, { hash := PyData.keyHash P (Str.ofString "__debug__"), key := Value.str (Str.ofString "__debug__") 81, val := Value.bool true }, { hash := PyData.keyHash P (Str.ofString "BaseException"), key := Value.str (Str.ofString "BaseException") 82, val := Value.type "BaseException" }, { hash := PyData.keyHash P (Str.ofString "BaseExceptionGroup"), key := Value.str (Str.ofString "BaseExceptionGroup") 83, val := Value.type "BaseExceptionGroup" }, { hash := PyData.keyHash P (Str.ofString "Exception"), key := Value.str (Str.ofString "Exception") 84, val := Value.type "Exception" }, { hash := PyData.keyHash P (Str.ofString "GeneratorExit"), key := Value.str (Str.ofString "GeneratorExit") 85, val := Value.type "GeneratorExit" }, { hash := PyData.keyHash P (Str.ofString "KeyboardInterrupt"), key := Value.str (Str.ofString "KeyboardInterrupt") 86, val := Value.type "KeyboardInterrupt" }, { hash := PyData.keyHash P (Str.ofString "SystemExit"), key := Value.str (Str.ofString "SystemExit") 87, val := Value.type "SystemExit" }, { hash := PyData.keyHash P (Str.ofString "ArithmeticError"), key := Value.str (Str.ofString "ArithmeticError") 88, val := Value.type "ArithmeticError" }, { hash := PyData.keyHash P (Str.ofString "AssertionError"), key := Value.str (Str.ofString "AssertionError") 89, val := Value.type "AssertionError" }, { hash := PyData.keyHash P (Str.ofString "AttributeError"), key := Value.str (Str.ofString "AttributeError") 90, val := Value.type "AttributeError" }, { hash := PyData.keyHash P (Str.ofString "BufferError"), key := Value.str (Str.ofString "BufferError") 91, val := Value.type "BufferError" }, { hash := PyData.keyHash P (Str.ofString "EOFError"), key := Value.str (Str.ofString "EOFError") 92, val := Value.type "EOFError" }, { hash := PyData.keyHash P (Str.ofString "ImportError"), key := Value.str (Str.ofString "ImportError") 93, val := Value.type "ImportError" }, { hash := PyData.keyHash P (Str.ofString "LookupError"), key := Value.str (Str.ofString "LookupError") 94, val := Value.type "LookupError" }, { hash := PyData.keyHash P (Str.ofString "MemoryError"), key := Value.str (Str.ofString "MemoryError") 95, val := Value.type "MemoryError" }, { hash := PyData.keyHash P (Str.ofString "NameError"), key := Value.str (Str.ofString "NameError") 96, val := Value.type "NameError" }, { hash := PyData.keyHash P (Str.ofString "OSError"), key := Value.str (Str.ofString "OSError") 97, val := Value.type "OSError" }, { hash := PyData.keyHash P (Str.ofString "ReferenceError"), key := Value.str (Str.ofString "ReferenceError") 98, val := Value.type "ReferenceError" }, { hash := PyData.keyHash P (Str.ofString "RuntimeError"), key := Value.str (Str.ofString "RuntimeError") 99, val := Value.type "RuntimeError" }, { hash := PyData.keyHash P (Str.ofString "StopAsyncIteration"), key := Value.str (Str.ofString "StopAsyncIteration") 100, val := Value.type "StopAsyncIteration" }, { hash := PyData.keyHash P (Str.ofString "StopIteration"), key := Value.str (Str.ofString "StopIteration") 101, val := Value.type "StopIteration" }, { hash := PyData.keyHash P (Str.ofString "SyntaxError"), key := Value.str (Str.ofString "SyntaxError") 102, val := Value.type "SyntaxError" }, { hash := PyData.keyHash P (Str.ofString "SystemError"), key := Value.str (Str.ofString "SystemError") 103, val := Value.type "SystemError" }, { hash := PyData.keyHash P (Str.ofString "TypeError"), key := Value.str (Str.ofString "TypeError") 104, val := Value.type "TypeError" }, { hash := PyData.keyHash P (Str.ofString "ValueError"), key := Value.str (Str.ofString "ValueError") 105, val := Value.type "ValueError" }, { hash := PyData.keyHash P (Str.ofString "Warning"), key := Value.str (Str.ofString "Warning") 106, val := Value.type "Warning" }, { hash := PyData.keyHash P (Str.ofString "FloatingPointError"), key := Value.str (Str.ofString "FloatingPointError") 107, val := Value.type "FloatingPointError" }, { hash := PyData.keyHash P (Str.ofString "OverflowError"), key := Value.str (Str.ofString "OverflowError") 108, val := Value.type "OverflowError" }, { hash := PyData.keyHash P (Str.ofString "ZeroDivisionError"), key := Value.str (Str.ofString "ZeroDivisionError") 109, val := Value.type "ZeroDivisionError" }, { hash := PyData.keyHash P (Str.ofString "BytesWarning"), key := Value.str (Str.ofString "BytesWarning") 110, val := Value.type "BytesWarning" }, { hash := PyData.keyHash P (Str.ofString "DeprecationWarning"), key := Value.str (Str.ofString "DeprecationWarning") 111, val := Value.type "DeprecationWarning" }, { hash := PyData.keyHash P (Str.ofString "EncodingWarning"), key := Value.str (Str.ofString "EncodingWarning") 112, val := Value.type "EncodingWarning" }, { hash := PyData.keyHash P (Str.ofString "FutureWarning"), key := Value.str (Str.ofString "FutureWarning") 113, val := Value.type "FutureWarning" }, { hash := PyData.keyHash P (Str.ofString "ImportWarning"), key := Value.str (Str.ofString "ImportWarning") 114, val := Value.type "ImportWarning" }, { hash := PyData.keyHash P (Str.ofString "PendingDeprecationWarning"), key := Value.str (Str.ofString "PendingDeprecationWarning") 115, val := Value.type "PendingDeprecationWarning" }, { hash := PyData.keyHash P (Str.ofString "ResourceWarning"), key := Value.str (Str.ofString "ResourceWarning") 116, val := Value.type "ResourceWarning" }, { hash := PyData.keyHash P (Str.ofString "RuntimeWarning"), key := Value.str (Str.ofString "RuntimeWarning") 117, val := Value.type "RuntimeWarning" }, { hash := PyData.keyHash P (Str.ofString "SyntaxWarning"), key := Value.str (Str.ofString "SyntaxWarning") 118, val := Value.type "SyntaxWarning" }, { hash := PyData.keyHash P (Str.ofString "UnicodeWarning"), key := Value.str (Str.ofString "UnicodeWarning") 119, val := Value.type "UnicodeWarning" }, { hash := PyData.keyHash P (Str.ofString "UserWarning"), key := Value.str (Str.ofString "UserWarning") 120, val := Value.type "UserWarning" }, { hash := PyData.keyHash P (Str.ofString "BlockingIOError"), key := Value.str (Str.ofString "BlockingIOError") 121, val := Value.type "BlockingIOError" }, { hash := PyData.keyHash P (Str.ofString "ChildProcessError"), key := Value.str (Str.ofString "ChildProcessError") 122, val := Value.type "ChildProcessError" }, { hash := PyData.keyHash P (Str.ofString "ConnectionError"), key := Value.str (Str.ofString "ConnectionError") 123, val := Value.type "ConnectionError" }, { hash := PyData.keyHash P (Str.ofString "FileExistsError"), key := Value.str (Str.ofString "FileExistsError") 124, val := Value.type "FileExistsError" }, { hash := PyData.keyHash P (Str.ofString "FileNotFoundError"), key := Value.str (Str.ofString "FileNotFoundError") 125, val := Value.type "FileNotFoundError" }, { hash := PyData.keyHash P (Str.ofString "InterruptedError"), key := Value.str (Str.ofString "InterruptedError") 126, val := Value.type "InterruptedError" }, { hash := PyData.keyHash P (Str.ofString "IsADirectoryError"), key := Value.str (Str.ofString "IsADirectoryError") 127, val := Value.type "IsADirectoryError" }, { hash := PyData.keyHash P (Str.ofString "NotADirectoryError"), key := Value.str (Str.ofString "NotADirectoryError") 128, val := Value.type "NotADirectoryError" }, { hash := PyData.keyHash P (Str.ofString "PermissionError"), key := Value.str (Str.ofString "PermissionError") 129, val := Value.type "PermissionError" }, { hash := PyData.keyHash P (Str.ofString "ProcessLookupError"), key := Value.str (Str.ofString "ProcessLookupError") 130, val := Value.type "ProcessLookupError" }, { hash := PyData.keyHash P (Str.ofString "TimeoutError"), key := Value.str (Str.ofString "TimeoutError") 131, val := Value.type "TimeoutError" }, { hash := PyData.keyHash P (Str.ofString "IndentationError"), key := Value.str (Str.ofString "IndentationError") 132, val := Value.type "IndentationError" }, { hash := PyData.keyHash P (Str.ofString "_IncompleteInputError"), key := Value.str (Str.ofString "_IncompleteInputError") 133, val := Value.type "_IncompleteInputError" }, { hash := PyData.keyHash P (Str.ofString "IndexError"), key := Value.str (Str.ofString "IndexError") 134, val := Value.type "IndexError" }, { hash := PyData.keyHash P (Str.ofString "KeyError"), key := Value.str (Str.ofString "KeyError") 135, val := Value.type "KeyError" }, { hash := PyData.keyHash P (Str.ofString "ModuleNotFoundError"), key := Value.str (Str.ofString "ModuleNotFoundError") 136, val := Value.type "ModuleNotFoundError" }, { hash := PyData.keyHash P (Str.ofString "NotImplementedError"), key := Value.str (Str.ofString "NotImplementedError") 137, val := Value.type "NotImplementedError" }, { hash := PyData.keyHash P (Str.ofString "PythonFinalizationError"), key := Value.str (Str.ofString "PythonFinalizationError") 138, val := Value.type "PythonFinalizationError" }, { hash := PyData.keyHash P (Str.ofString "RecursionError"), key := Value.str (Str.ofString "RecursionError") 139, val := Value.type "RecursionError" }, { hash := PyData.keyHash P (Str.ofString "UnboundLocalError"), key := Value.str (Str.ofString "UnboundLocalError") 140, val := Value.type "UnboundLocalError" }, { hash := PyData.keyHash P (Str.ofString "UnicodeError"), key := Value.str (Str.ofString "UnicodeError") 141, val := Value.type "UnicodeError" }, { hash := PyData.keyHash P (Str.ofString "BrokenPipeError"), key := Value.str (Str.ofString "BrokenPipeError") 142, val := Value.type "BrokenPipeError" }, { hash := PyData.keyHash P (Str.ofString "ConnectionAbortedError"), key := Value.str (Str.ofString "ConnectionAbortedError") 143, val := Value.type "ConnectionAbortedError" }, { hash := PyData.keyHash P (Str.ofString "ConnectionRefusedError"), key := Value.str (Str.ofString "ConnectionRefusedError") 144, val := Value.type "ConnectionRefusedError" }, { hash := PyData.keyHash P (Str.ofString "ConnectionResetError"), key := Value.str (Str.ofString "ConnectionResetError") 145, val := Value.type "ConnectionResetError" }, { hash := PyData.keyHash P (Str.ofString "TabError"), key := Value.str (Str.ofString "TabError") 146, val := Value.type "TabError" }, { hash := PyData.keyHash P (Str.ofString "UnicodeDecodeError"), key := Value.str (Str.ofString "UnicodeDecodeError") 147, val := Value.type "UnicodeDecodeError" }, { hash := PyData.keyHash P (Str.ofString "UnicodeEncodeError"), key := Value.str (Str.ofString "UnicodeEncodeError") 148, val := Value.type "UnicodeEncodeError" }, { hash := PyData.keyHash P (Str.ofString "UnicodeTranslateError"), key := Value.str (Str.ofString "UnicodeTranslateError") 149, val := Value.type "UnicodeTranslateError" }, { hash := PyData.keyHash P (Str.ofString "ExceptionGroup"), key := Value.str (Str.ofString "ExceptionGroup") 150, val := Value.type "ExceptionGroup" }, { hash := PyData.keyHash P (Str.ofString "EnvironmentError"), key := Value.str (Str.ofString "EnvironmentError") 151, val := Value.type "OSError" }, { hash := PyData.keyHash P (Str.ofString "IOError"), key := Value.str (Str.ofString "IOError") 152, val := Value.type "OSError" }, { hash := PyData.keyHash P (Str.ofString "open"), key := Value.str (Str.ofString "open") 153, val := Value.builtin "open" }, { hash := PyData.keyHash P (Str.ofString "quit"), key := Value.str (Str.ofString "quit") 154, val := Value.builtin "builtins.quit#opaque" }, { hash := PyData.keyHash P (Str.ofString "exit"), key := Value.str (Str.ofString "exit") 155, val := Value.builtin "builtins.exit#opaque" }, { hash := PyData.keyHash P (Str.ofString "copyright"), key := Value.str (Str.ofString "copyright") 156, val := Value.builtin "builtins.copyright#opaque" }, { hash := PyData.keyHash P (Str.ofString "credits"), key := Value.str (Str.ofString "credits") 157, val := Value.builtin "builtins.credits#opaque" }, { hash := PyData.keyHash P (Str.ofString "license"), key := Value.str (Str.ofString "license") 158, val := Value.builtin "builtins.license#opaque" }, { hash := PyData.keyHash P (Str.ofString "help"), key := Value.str (Str.ofString "help") 159, val := Value.builtin "builtins.help#opaque" }] 159 }
noncomputable def o_1 (P : Params) : Obj := { cls := Value.type "dict", data := Data.dict #[{ hash := PyData.keyHash P (Str.ofString "builtins"), key := Value.str (Str.ofString "builtins") 162, val := Value.ref 4 }, { hash := PyData.keyHash P (Str.ofString "__main__"), key := Value.str (Str.ofString "__main__") 163, val := Value.ref 5 }] 2 }
noncomputable def o_2 (P : Params) : Obj := { cls := Value.none, data := Data.dict #[{ hash := PyData.keyHash P (Str.ofString "type.__subclasses__.Exception.0"), key := Value.str (Str.ofString "type.__subclasses__.Exception.0") 214, val := Value.int 31 0 }, { hash := PyData.keyHash P (Str.ofString "type.__subclasses__.Exception.n"), key := Value.str (Str.ofString "type.__subclasses__.Exception.n") 215, val := Value.int 1 0 }] 2 }
noncomputable def o_3 (P : Params) : Obj := { cls := Value.type "dict", data := Data.dict #[{ hash := PyData.keyHash P (Str.ofString "__name__"), key := Value.str (Str.ofString "__name__") 165, val := Value.str (Str.ofString "law_nz0249_01") 1194 }, { hash := PyData.keyHash P (Str.ofString "__doc__"), key := Value.str (Str.ofString "__doc__") 166, val := Value.none }, { hash := PyData.keyHash P (Str.ofString "__package__"), key := Value.str (Str.ofString "__package__") 167, val := Value.none }, { hash := PyData.keyHash P (Str.ofString "__loader__"), key := Value.str (Str.ofString "__loader__") 168, val := Value.builtin "__main__.__loader__#opaque" }, { hash := PyData.keyHash P (Str.ofString "__spec__"), key := Value.str (Str.ofString "__spec__") 169, val := Value.none }, { hash := PyData.keyHash P (Str.ofString "__annotations__"), key := Value.str (Str.ofString "__annotations__") 170, val := Value.ref 6 }, { hash := PyData.keyHash P (Str.ofString "__builtins__"), key := Value.str (Str.ofString "__builtins__") 171, val := Value.ref 4 }, { hash := PyData.keyHash P (Str.ofString "__file__"), key := Value.str (Str.ofString "__file__") 173, val := Value.str (Str.ofString "/claim/cut.py") 172 }, { hash := PyData.keyHash P (Str.ofString "__cached__"), key := Value.str (Str.ofString "__cached__") 174, val := Value.none }, { hash := PyData.keyHash P (Str.ofString "PressError"), key := Value.str (Str.ofString "PressError") 217, val := Value.ref 31 }, { hash := PyData.keyHash P (Str.ofString "FrameError"), key := Value.str (Str.ofString "FrameError") 233, val := Value.ref 44 }, { hash := PyData.keyHash P (Str.ofString "RangeError"), key := Value.str (Str.ofString "RangeError") 249, val := Value.ref 56 }, { hash := PyData.keyHash P (Str.ofString "parts"), key := Value.str (Str.ofString "parts") 259, val := Value.ref 65 }, { hash := PyData.keyHash P (Str.ofString "Component"), key := Value.str (Str.ofString "Component") 294, val := Value.ref 82 }, { hash := PyData.keyHash P (Str.ofString "Frame"), key := Value.str (Str.ofString "Frame") 388, val := Value.ref 148 }, { hash := PyData.keyHash P (Str.ofString "Grid"), key := Value.str (Str.ofString "Grid") 440, val := Value.ref 181 }, { hash := PyData.keyHash P (Str.ofString "zigzag_places"), key := Value.str (Str.ofString "zigzag_places") 455, val := Value.ref 192 }, { hash := PyData.keyHash P (Str.ofString "ORDER_8"), key := Value.str (Str.ofString "ORDER_8") 1048, val := Value.ref 410 }, { hash := PyData.keyHash P (Str.ofString "order"), key := Value.str (Str.ofString "order") 1055, val := Value.ref 417 }, { hash := PyData.keyHash P (Str.ofString "to_row"), key := Value.str (Str.ofString "to_row") 1061, val := Value.ref 422 }, { hash := PyData.keyHash P (Str.ofString "to_block"), key := Value.str (Str.ofString "to_block") 1072, val := Value.ref 429 }, { hash := PyData.keyHash P (Str.ofString "WORDS"), key := Value.str (Str.ofString "WORDS") 1083, val := Value.ref 430 }, { hash := PyData.keyHash P (Str.ofString "SWAPPING"), key := Value.str (Str.ofString "SWAPPING") 1088, val := Value.ref 431 }, { hash := PyData.keyHash P (Str.ofString "MIRRORING"), key := Value.str (Str.ofString "MIRRORING") 1093, val := Value.ref 432 }, { hash := PyData.keyHash P (Str.ofString "FLIPPING"), key := Value.str (Str.ofString "FLIPPING") 1098, val := Value.ref 433 }, { hash := PyData.keyHash P (Str.ofString "check_word"), key := Value.str (Str.ofString "check_word") 1105, val := Value.ref 440 }, { hash := PyData.keyHash P (Str.ofString "turned_row"), key := Value.str (Str.ofString "turned_row") 1119, val := Value.ref 447 }, { hash := PyData.keyHash P (Str.ofString "turned_place"), key := Value.str (Str.ofString "turned_place") 1130, val := Value.ref 454 }, { hash := PyData.keyHash P (Str.ofString "unit_size"), key := Value.str (Str.ofString "unit_size") 1137, val := Value.ref 461 }, { hash := PyData.keyHash P (Str.ofString "is_whole"), key := Value.str (Str.ofString "is_whole") 1150, val := Value.ref 468 }, { hash := PyData.keyHash P (Str.ofString "turned_frame"), key := Value.str (Str.ofString "turned_frame") 1165, val := Value.ref 475 }, { hash := PyData.keyHash P (Str.ofString "turned_component"), key := Value.str (Str.ofString "turned_component") 1181, val := Value.ref 482 }, { hash := PyData.keyHash P (Str.ofString "turned_grid"), key := Value.str (Str.ofString "turned_grid") 1193, val := Value.ref 489 }, { hash := PyData.keyHash P (Str.ofString "_law_pool"), key := Value.str (Str.ofString "_law_pool") 1206, val := Value.ref 496 }, { hash := PyData.keyHash P (Str.ofString "_law_take"), key := Value.str (Str.ofString "_law_take") 1215, val := Value.ref 503 }, { hash := PyData.keyHash P (Str.ofString "_law_one"), key := Value.str (Str.ofString "_law_one") 1223, val := Value.ref 510 }, { hash := PyData.keyHash P (Str.ofString "_law_frame"), key := Value.str (Str.ofString "_law_frame") 1229, val := Value.ref 515 }, { hash := PyData.keyHash P (Str.ofString "_law_filled"), key := Value.str (Str.ofString "_law_filled") 1243, val := Value.ref 522 }, { hash := PyData.keyHash P (Str.ofString "_law_shown"), key := Value.str (Str.ofString "_law_shown") 1249, val := Value.ref 527 }, { hash := PyData.keyHash P (Str.ofString "_law_led"), key := Value.str (Str.ofString "_law_led") 1260, val := Value.ref 534 }, { hash := PyData.keyHash P (Str.ofString "_law_bent"), key := Value.str (Str.ofString "_law_bent") 1272, val := Value.ref 541 }, { hash := PyData.keyHash P (Str.ofString "_law_rest"), key := Value.str (Str.ofString "_law_rest") 1278, val := Value.ref 546 }, { hash := PyData.keyHash P (Str.ofString "_law_moved_right"), key := Value.str (Str.ofString "_law_moved_right") 1300, val := Value.ref 553 }, { hash := PyData.keyHash P (Str.ofString "_law_is_refused"), key := Value.str (Str.ofString "_law_is_refused") 1309, val := Value.ref 560 }, { hash := PyData.keyHash P (Str.ofString "law"), key := Value.str (Str.ofString "law") 1326, val := Value.ref 567 }] 45 }
noncomputable def o_4 (_ : Params) : Obj := { cls := Value.type "module", dict := some 0 }
noncomputable def o_5 (_ : Params) : Obj := { cls := Value.type "module", dict := some 3 }
noncomputable def o_6 (_ : Params) : Obj := { cls := Value.type "dict", data := Data.dict #[] }
noncomputable def o_7 (_ : Params) : Obj := { cls := Value.type "tuple", data := Data.seq #[] }
noncomputable def o_8 (_ : Params) : Obj := { cls := Value.none, data := Data.fields #[] }
noncomputable def o_9 (_ : Params) : Obj := { cls := Value.type "code", data := Data.fields #[Value.str (Str.ofString "<module>") 176, Value.str (Str.ofString "<module>") 177, Value.str (Str.ofString "/claim/cut.py") 178, Value.int 1 0, Value.int 0 0, Value.int 0 0, Value.int 0 0, Value.int 0 0, Value.ref 7, Value.bool false, Value.int 175 0, Value.ref 8, Value.none, Value.none, Value.none, Value.none, Value.int 179 0, Value.int 1 0, Value.str (Str.ofString "/claim/cut.py") 180] }
noncomputable def o_10 (_ : Params) : Obj := { cls := Value.type "frame", slots := #[some (Value.ref 9), some (Value.ref 3), some (Value.ref 3), none, some (Value.str (Str.ofString "__main__") 164), none, some (Value.ref 0)] }
noncomputable def o_11 (_ : Params) : Obj := { cls := Value.type "tuple", data := Data.seq #[] }
noncomputable def o_12 (_ : Params) : Obj := { cls := Value.none, data := Data.fields #[Value.int 2 0, Value.int 0 0, Value.ref 20, Value.int 7 0, Value.int 0 0, Value.ref 40, Value.int 9 0, Value.int 0 0, Value.ref 52, Value.int 12 0, Value.int 0 0, Value.ref 64, Value.int 14 0, Value.int 0 0, Value.ref 71, Value.int 21 0, Value.int 0 0, Value.ref 92, Value.int 56 0, Value.int 0 0, Value.ref 158, Value.int 72 0, Value.int 0 0, Value.ref 191, Value.int 82 0, Value.int 0 0, Value.ref 416, Value.int 84 0, Value.int 0 0, Value.ref 421, Value.int 86 0, Value.int 0 0, Value.ref 428, Value.int 98 0, Value.int 0 0, Value.ref 439, Value.int 101 0, Value.int 0 0, Value.ref 446, Value.int 112 0, Value.int 0 0, Value.ref 453, Value.int 121 0, Value.int 0 0, Value.ref 460, Value.int 123 0, Value.int 0 0, Value.ref 467, Value.int 129 0, Value.int 0 0, Value.ref 474, Value.int 139 0, Value.int 0 0, Value.ref 481, Value.int 145 0, Value.int 0 0, Value.ref 488, Value.int 155 0, Value.int 0 0, Value.ref 495, Value.int 162 0, Value.int 0 0, Value.ref 502, Value.int 169 0, Value.int 0 0, Value.ref 509, Value.int 171 0, Value.int 0 0, Value.ref 514, Value.int 178 0, Value.int 0 0, Value.ref 521, Value.int 186 0, Value.int 0 0, Value.ref 526, Value.int 193 0, Value.int 0 0, Value.ref 533, Value.int 207 0, Value.int 0 0, Value.ref 540, Value.int 216 0, Value.int 0 0, Value.ref 545, Value.int 221 0, Value.int 0 0, Value.ref 552, Value.int 239 0, Value.int 0 0, Value.ref 559, Value.int 247 0, Value.int 0 0, Value.ref 566] }
noncomputable def o_13 (_ : Params) : Obj := { cls := Value.type "code", data := Data.fields #[Value.str (Str.ofString "<module>") 182, Value.str (Str.ofString "<module>") 183, Value.str (Str.ofString "/claim/cut.py") 184, Value.int 1 0, Value.int 0 0, Value.int 0 0, Value.int 0 0, Value.int 0 0, Value.ref 11, Value.bool false, Value.int 181 0, Value.ref 12, Value.none, Value.none, Value.none, Value.none, Value.int 185 0, Value.int 1 0, Value.str (Str.ofString "/claim/cut.py") 186] }
noncomputable def o_14 (_ : Params) : Obj := { cls := Value.type "frame", slots := #[some (Value.ref 13), some (Value.ref 3), some (Value.ref 3), none, some (Value.str (Str.ofString "__main__") 164), none, some (Value.ref 0)] }
noncomputable def o_15 (_ : Params) : Obj := { cls := Value.type "tuple", data := Data.seq #[Value.type "Exception"] }
noncomputable def o_16 (_ : Params) : Obj := { cls := Value.type "builtin_function_or_method", data := Data.fields #[Value.builtin "type.__prepare__", Value.type "type"] }
noncomputable def o_17 (P : Params) : Obj := { cls := Value.type "dict", data := Data.dict #[{ hash := PyData.keyHash P (Str.ofString "__module__"), key := Value.str (Str.ofString "__module__") 196, val := Value.str (Str.ofString "pixelpress.errors") 187 }, { hash := PyData.keyHash P (Str.ofString "__qualname__"), key := Value.str (Str.ofString "__qualname__") 198, val := Value.str (Str.ofString "PressError") 197 }, { hash := PyData.keyHash P (Str.ofString "__firstlineno__"), key := Value.str (Str.ofString "__firstlineno__") 200, val := Value.int 2 199 }, { hash := PyData.keyHash P (Str.ofString "__init__"), key := Value.str (Str.ofString "__init__") 208, val := Value.ref 28 }, { hash := PyData.keyHash P (Str.ofString "__static_attributes__"), key := Value.str (Str.ofString "__static_attributes__") 210, val := Value.ref 29 }] 5 }
noncomputable def o_18 (_ : Params) : Obj := { cls := Value.type "tuple", data := Data.seq #[] }
noncomputable def o_19 (_ : Params) : Obj := { cls := Value.none, data := Data.fields #[Value.int 4 0, Value.int 4 0, Value.ref 27] }
noncomputable def o_20 (_ : Params) : Obj := { cls := Value.type "code", data := Data.fields #[Value.str (Str.ofString "PressError") 191, Value.str (Str.ofString "PressError") 192, Value.str (Str.ofString "/claim/cut.py") 193, Value.int 2 0, Value.int 0 0, Value.int 0 0, Value.int 0 0, Value.int 0 0, Value.ref 18, Value.bool false, Value.int 181 0, Value.ref 19, Value.none, Value.none, Value.none, Value.none, Value.int 194 0, Value.int 2 0, Value.str (Str.ofString "/claim/cut.py") 195] }
noncomputable def o_21 (_ : Params) : Obj := { cls := Value.type "frame", slots := #[some (Value.ref 20), some (Value.ref 3), some (Value.ref 17), none, some (Value.str (Str.ofString "pixelpress.errors") 187), none, some (Value.ref 0)] }
noncomputable def o_22 (_ : Params) : Obj := { cls := Value.type "tuple", data := Data.seq #[] }
noncomputable def o_23 (_ : Params) : Obj := { cls := Value.none, data := Data.fields #[] }
noncomputable def o_24 (_ : Params) : Obj := { cls := Value.type "tuple", data := Data.seq #[Value.str (Str.ofString "self") 204, Value.str (Str.ofString "message") 205] }
noncomputable def o_25 (_ : Params) : Obj := { cls := Value.type "tuple", data := Data.seq #[] }
noncomputable def o_26 (_ : Params) : Obj := { cls := Value.none, data := Data.func { name := Str.ofString "__init__", qualname := Str.ofString "PressError.__init__", params := argS (methS 1 0), body := FuncBody.stmts (inS (methS 1 0)), scope := scoS (methS 1 0), globals := 0, closure := [], defaults := Value.none, kwdefaults := Value.none } }
noncomputable def o_27 (_ : Params) : Obj := { cls := Value.type "code", data := Data.fields #[Value.str (Str.ofString "__init__") 201, Value.str (Str.ofString "PressError.__init__") 202, Value.str (Str.ofString "/claim/cut.py") 203, Value.int 4 0, Value.int 2 0, Value.int 0 0, Value.int 0 0, Value.int 3 0, Value.ref 22, Value.bool true, Value.int 181 0, Value.ref 23, Value.none, Value.ref 24, Value.ref 25, Value.ref 26, Value.int 206 0, Value.int 4 0, Value.str (Str.ofString "/claim/cut.py") 207] }
noncomputable def o_28 (_ : Params) : Obj := { cls := Value.type "function", data := Data.func { name := Str.ofString "__init__", qualname := Str.ofString "PressError.__init__", params := argS (methS 1 0), body := FuncBody.stmts (inS (methS 1 0)), scope := scoS (methS 1 0), globals := 3, closure := [], defaults := Value.none, kwdefaults := Value.none, pyModule := Value.str (Str.ofString "pixelpress.errors") 187, code := Value.ref 27 } }
noncomputable def o_29 (_ : Params) : Obj := { cls := Value.type "tuple", data := Data.seq #[Value.str (Str.ofString "message") 209] }
noncomputable def o_30 (P : Params) : Obj := { cls := Value.type "dict", data := Data.dict #[{ hash := PyData.keyHash P (Str.ofString "__module__"), key := Value.str (Str.ofString "__module__") 196, val := Value.str (Str.ofString "pixelpress.errors") 187 }, { hash := PyData.keyHash P (Str.ofString "__firstlineno__"), key := Value.str (Str.ofString "__firstlineno__") 200, val := Value.int 2 199 }, { hash := PyData.keyHash P (Str.ofString "__init__"), key := Value.str (Str.ofString "__init__") 208, val := Value.ref 28 }, { hash := PyData.keyHash P (Str.ofString "__static_attributes__"), key := Value.str (Str.ofString "__static_attributes__") 210, val := Value.ref 29 }, { hash := PyData.keyHash P (Str.ofString "__weakref__"), key := Value.str (Str.ofString "__weakref__") 212, val := Value.ref 32 }, { hash := PyData.keyHash P (Str.ofString "__doc__"), key := Value.str (Str.ofString "__doc__") 213, val := Value.none }] 3 }
noncomputable def o_31 (_ : Params) : Obj := { cls := Value.type "type", data := Data.cls { name := Str.ofString "PressError", bases := [Value.type "Exception"], mro := [Value.ref 31, Value.type "Exception", Value.type "BaseException", Value.type "object"], ns := 30, qualname := Str.ofString "PressError", subclasses := [Value.ref 44, Value.ref 56] }, slots := #[some (Value.ref 15), none, some (Value.str (Str.ofString "PressError") 189), some (Value.str (Str.ofString "PressError") 197), some (Value.builtin "Exception.__new__"), some (Value.bool true)] }
noncomputable def o_32 (_ : Params) : Obj := { cls := Value.type "getset_descriptor", data := Data.fields #[Value.str (Str.ofString "__weakref__") 211, Value.ref 31, Value.builtin "ExceptionGroup.__weakref__", Value.none] }
noncomputable def o_33 (_ : Params) : Obj := { cls := Value.type "super", data := Data.fields #[Value.ref 31, Value.ref 31, Value.ref 31] }
noncomputable def o_34 (_ : Params) : Obj := { cls := Value.type "builtin_function_or_method", data := Data.fields #[Value.builtin "object.__init_subclass__", Value.ref 31] }
noncomputable def o_35 (_ : Params) : Obj := { cls := Value.type "tuple", data := Data.seq #[Value.ref 31] }
noncomputable def o_36 (_ : Params) : Obj := { cls := Value.type "builtin_function_or_method", data := Data.fields #[Value.builtin "type.__prepare__", Value.type "type"] }
noncomputable def o_37 (P : Params) : Obj := { cls := Value.type "dict", data := Data.dict #[{ hash := PyData.keyHash P (Str.ofString "__module__"), key := Value.str (Str.ofString "__module__") 225, val := Value.str (Str.ofString "pixelpress.errors") 187 }, { hash := PyData.keyHash P (Str.ofString "__qualname__"), key := Value.str (Str.ofString "__qualname__") 227, val := Value.str (Str.ofString "FrameError") 226 }, { hash := PyData.keyHash P (Str.ofString "__firstlineno__"), key := Value.str (Str.ofString "__firstlineno__") 229, val := Value.int 7 228 }, { hash := PyData.keyHash P (Str.ofString "__static_attributes__"), key := Value.str (Str.ofString "__static_attributes__") 230, val := Value.ref 42 }] 4 }
noncomputable def o_38 (_ : Params) : Obj := { cls := Value.type "tuple", data := Data.seq #[] }
noncomputable def o_39 (_ : Params) : Obj := { cls := Value.none, data := Data.fields #[] }
noncomputable def o_40 (_ : Params) : Obj := { cls := Value.type "code", data := Data.fields #[Value.str (Str.ofString "FrameError") 220, Value.str (Str.ofString "FrameError") 221, Value.str (Str.ofString "/claim/cut.py") 222, Value.int 7 0, Value.int 0 0, Value.int 0 0, Value.int 0 0, Value.int 0 0, Value.ref 38, Value.bool false, Value.int 181 0, Value.ref 39, Value.none, Value.none, Value.none, Value.none, Value.int 223 0, Value.int 7 0, Value.str (Str.ofString "/claim/cut.py") 224] }
noncomputable def o_41 (_ : Params) : Obj := { cls := Value.type "frame", slots := #[some (Value.ref 40), some (Value.ref 3), some (Value.ref 37), none, some (Value.str (Str.ofString "pixelpress.errors") 187), none, some (Value.ref 0)] }
noncomputable def o_42 (_ : Params) : Obj := { cls := Value.type "tuple", data := Data.seq #[] }
noncomputable def o_43 (P : Params) : Obj := { cls := Value.type "dict", data := Data.dict #[{ hash := PyData.keyHash P (Str.ofString "__module__"), key := Value.str (Str.ofString "__module__") 225, val := Value.str (Str.ofString "pixelpress.errors") 187 }, { hash := PyData.keyHash P (Str.ofString "__firstlineno__"), key := Value.str (Str.ofString "__firstlineno__") 229, val := Value.int 7 228 }, { hash := PyData.keyHash P (Str.ofString "__static_attributes__"), key := Value.str (Str.ofString "__static_attributes__") 230, val := Value.ref 42 }, { hash := PyData.keyHash P (Str.ofString "__doc__"), key := Value.str (Str.ofString "__doc__") 231, val := Value.none }] 2 }
noncomputable def o_44 (_ : Params) : Obj := { cls := Value.type "type", data := Data.cls { name := Str.ofString "FrameError", bases := [Value.ref 31], mro := [Value.ref 44, Value.ref 31, Value.type "Exception", Value.type "BaseException", Value.type "object"], ns := 43, qualname := Str.ofString "FrameError" }, slots := #[some (Value.ref 35), none, some (Value.str (Str.ofString "FrameError") 218), some (Value.str (Str.ofString "FrameError") 226), some (Value.builtin "Exception.__new__"), some (Value.bool true)] }
noncomputable def o_45 (_ : Params) : Obj := { cls := Value.type "super", data := Data.fields #[Value.ref 44, Value.ref 44, Value.ref 44] }
noncomputable def o_46 (_ : Params) : Obj := { cls := Value.type "builtin_function_or_method", data := Data.fields #[Value.builtin "object.__init_subclass__", Value.ref 44] }
noncomputable def o_47 (_ : Params) : Obj := { cls := Value.type "tuple", data := Data.seq #[Value.ref 31] }
noncomputable def o_48 (_ : Params) : Obj := { cls := Value.type "builtin_function_or_method", data := Data.fields #[Value.builtin "type.__prepare__", Value.type "type"] }
noncomputable def o_49 (P : Params) : Obj := { cls := Value.type "dict", data := Data.dict #[{ hash := PyData.keyHash P (Str.ofString "__module__"), key := Value.str (Str.ofString "__module__") 241, val := Value.str (Str.ofString "pixelpress.errors") 187 }, { hash := PyData.keyHash P (Str.ofString "__qualname__"), key := Value.str (Str.ofString "__qualname__") 243, val := Value.str (Str.ofString "RangeError") 242 }, { hash := PyData.keyHash P (Str.ofString "__firstlineno__"), key := Value.str (Str.ofString "__firstlineno__") 245, val := Value.int 9 244 }, { hash := PyData.keyHash P (Str.ofString "__static_attributes__"), key := Value.str (Str.ofString "__static_attributes__") 246, val := Value.ref 54 }] 4 }
noncomputable def o_50 (_ : Params) : Obj := { cls := Value.type "tuple", data := Data.seq #[] }
noncomputable def o_51 (_ : Params) : Obj := { cls := Value.none, data := Data.fields #[] }
noncomputable def o_52 (_ : Params) : Obj := { cls := Value.type "code", data := Data.fields #[Value.str (Str.ofString "RangeError") 236, Value.str (Str.ofString "RangeError") 237, Value.str (Str.ofString "/claim/cut.py") 238, Value.int 9 0, Value.int 0 0, Value.int 0 0, Value.int 0 0, Value.int 0 0, Value.ref 50, Value.bool false, Value.int 181 0, Value.ref 51, Value.none, Value.none, Value.none, Value.none, Value.int 239 0, Value.int 9 0, Value.str (Str.ofString "/claim/cut.py") 240] }
noncomputable def o_53 (_ : Params) : Obj := { cls := Value.type "frame", slots := #[some (Value.ref 52), some (Value.ref 3), some (Value.ref 49), none, some (Value.str (Str.ofString "pixelpress.errors") 187), none, some (Value.ref 0)] }
noncomputable def o_54 (_ : Params) : Obj := { cls := Value.type "tuple", data := Data.seq #[] }
noncomputable def o_55 (P : Params) : Obj := { cls := Value.type "dict", data := Data.dict #[{ hash := PyData.keyHash P (Str.ofString "__module__"), key := Value.str (Str.ofString "__module__") 241, val := Value.str (Str.ofString "pixelpress.errors") 187 }, { hash := PyData.keyHash P (Str.ofString "__firstlineno__"), key := Value.str (Str.ofString "__firstlineno__") 245, val := Value.int 9 244 }, { hash := PyData.keyHash P (Str.ofString "__static_attributes__"), key := Value.str (Str.ofString "__static_attributes__") 246, val := Value.ref 54 }, { hash := PyData.keyHash P (Str.ofString "__doc__"), key := Value.str (Str.ofString "__doc__") 247, val := Value.none }] 2 }
noncomputable def o_56 (_ : Params) : Obj := { cls := Value.type "type", data := Data.cls { name := Str.ofString "RangeError", bases := [Value.ref 31], mro := [Value.ref 56, Value.ref 31, Value.type "Exception", Value.type "BaseException", Value.type "object"], ns := 55, qualname := Str.ofString "RangeError" }, slots := #[some (Value.ref 47), none, some (Value.str (Str.ofString "RangeError") 234), some (Value.str (Str.ofString "RangeError") 242), some (Value.builtin "Exception.__new__"), some (Value.bool true)] }
noncomputable def o_57 (_ : Params) : Obj := { cls := Value.type "super", data := Data.fields #[Value.ref 56, Value.ref 56, Value.ref 56] }
noncomputable def o_58 (_ : Params) : Obj := { cls := Value.type "builtin_function_or_method", data := Data.fields #[Value.builtin "object.__init_subclass__", Value.ref 56] }
noncomputable def o_59 (_ : Params) : Obj := { cls := Value.type "tuple", data := Data.seq #[] }
noncomputable def o_60 (_ : Params) : Obj := { cls := Value.none, data := Data.fields #[] }
noncomputable def o_61 (_ : Params) : Obj := { cls := Value.type "tuple", data := Data.seq #[Value.str (Str.ofString "many") 255, Value.str (Str.ofString "size") 256] }
noncomputable def o_62 (_ : Params) : Obj := { cls := Value.type "tuple", data := Data.seq #[] }
noncomputable def o_63 (_ : Params) : Obj := { cls := Value.none, data := Data.func { name := Str.ofString "parts", qualname := Str.ofString "parts", params := argS (topS 5), body := FuncBody.stmts (inS (topS 5)), scope := scoS (topS 5), globals := 0, closure := [], defaults := Value.none, kwdefaults := Value.none } }
noncomputable def o_64 (_ : Params) : Obj := { cls := Value.type "code", data := Data.fields #[Value.str (Str.ofString "parts") 252, Value.str (Str.ofString "parts") 253, Value.str (Str.ofString "/claim/cut.py") 254, Value.int 12 0, Value.int 2 0, Value.int 0 0, Value.int 0 0, Value.int 3 0, Value.ref 59, Value.bool true, Value.int 181 0, Value.ref 60, Value.none, Value.ref 61, Value.ref 62, Value.ref 63, Value.int 257 0, Value.int 12 0, Value.str (Str.ofString "/claim/cut.py") 258] }
noncomputable def o_65 (_ : Params) : Obj := { cls := Value.type "function", data := Data.func { name := Str.ofString "parts", qualname := Str.ofString "parts", params := argS (topS 5), body := FuncBody.stmts (inS (topS 5)), scope := scoS (topS 5), globals := 3, closure := [], defaults := Value.none, kwdefaults := Value.none, pyModule := Value.str (Str.ofString "pixelpress.frames") 250, code := Value.ref 64 } }
noncomputable def o_66 (_ : Params) : Obj := { cls := Value.type "tuple", data := Data.seq #[] }
noncomputable def o_67 (_ : Params) : Obj := { cls := Value.type "builtin_function_or_method", data := Data.fields #[Value.builtin "type.__prepare__", Value.type "type"] }
noncomputable def o_68 (P : Params) : Obj := { cls := Value.type "dict", data := Data.dict #[{ hash := PyData.keyHash P (Str.ofString "__module__"), key := Value.str (Str.ofString "__module__") 267, val := Value.str (Str.ofString "pixelpress.frames") 250 }, { hash := PyData.keyHash P (Str.ofString "__qualname__"), key := Value.str (Str.ofString "__qualname__") 269, val := Value.str (Str.ofString "Component") 268 }, { hash := PyData.keyHash P (Str.ofString "__firstlineno__"), key := Value.str (Str.ofString "__firstlineno__") 271, val := Value.int 14 270 }, { hash := PyData.keyHash P (Str.ofString "__init__"), key := Value.str (Str.ofString "__init__") 282, val := Value.ref 79 }, { hash := PyData.keyHash P (Str.ofString "__static_attributes__"), key := Value.str (Str.ofString "__static_attributes__") 287, val := Value.ref 80 }] 5 }
noncomputable def o_69 (_ : Params) : Obj := { cls := Value.type "tuple", data := Data.seq #[] }
noncomputable def o_70 (_ : Params) : Obj := { cls := Value.none, data := Data.fields #[Value.int 16 0, Value.int 4 0, Value.ref 78] }
noncomputable def o_71 (_ : Params) : Obj := { cls := Value.type "code", data := Data.fields #[Value.str (Str.ofString "Component") 262, Value.str (Str.ofString "Component") 263, Value.str (Str.ofString "/claim/cut.py") 264, Value.int 14 0, Value.int 0 0, Value.int 0 0, Value.int 0 0, Value.int 0 0, Value.ref 69, Value.bool false, Value.int 181 0, Value.ref 70, Value.none, Value.none, Value.none, Value.none, Value.int 265 0, Value.int 14 0, Value.str (Str.ofString "/claim/cut.py") 266] }
noncomputable def o_72 (_ : Params) : Obj := { cls := Value.type "frame", slots := #[some (Value.ref 71), some (Value.ref 3), some (Value.ref 68), none, some (Value.str (Str.ofString "pixelpress.frames") 250), none, some (Value.ref 0)] }
noncomputable def o_73 (_ : Params) : Obj := { cls := Value.type "tuple", data := Data.seq #[] }
noncomputable def o_74 (_ : Params) : Obj := { cls := Value.none, data := Data.fields #[] }
noncomputable def o_75 (_ : Params) : Obj := { cls := Value.type "tuple", data := Data.seq #[Value.str (Str.ofString "self") 275, Value.str (Str.ofString "ident") 276, Value.str (Str.ofString "across") 277, Value.str (Str.ofString "down") 278, Value.str (Str.ofString "quant") 279] }
noncomputable def o_76 (_ : Params) : Obj := { cls := Value.type "tuple", data := Data.seq #[] }
noncomputable def o_77 (_ : Params) : Obj := { cls := Value.none, data := Data.func { name := Str.ofString "__init__", qualname := Str.ofString "Component.__init__", params := argS (methS 6 0), body := FuncBody.stmts (inS (methS 6 0)), scope := scoS (methS 6 0), globals := 0, closure := [], defaults := Value.none, kwdefaults := Value.none } }
noncomputable def o_78 (_ : Params) : Obj := { cls := Value.type "code", data := Data.fields #[Value.str (Str.ofString "__init__") 272, Value.str (Str.ofString "Component.__init__") 273, Value.str (Str.ofString "/claim/cut.py") 274, Value.int 16 0, Value.int 5 0, Value.int 0 0, Value.int 0 0, Value.int 3 0, Value.ref 73, Value.bool true, Value.int 181 0, Value.ref 74, Value.none, Value.ref 75, Value.ref 76, Value.ref 77, Value.int 280 0, Value.int 16 0, Value.str (Str.ofString "/claim/cut.py") 281] }
noncomputable def o_79 (_ : Params) : Obj := { cls := Value.type "function", data := Data.func { name := Str.ofString "__init__", qualname := Str.ofString "Component.__init__", params := argS (methS 6 0), body := FuncBody.stmts (inS (methS 6 0)), scope := scoS (methS 6 0), globals := 3, closure := [], defaults := Value.none, kwdefaults := Value.none, pyModule := Value.str (Str.ofString "pixelpress.frames") 250, code := Value.ref 78 } }
noncomputable def o_80 (_ : Params) : Obj := { cls := Value.type "tuple", data := Data.seq #[Value.str (Str.ofString "across") 283, Value.str (Str.ofString "down") 284, Value.str (Str.ofString "ident") 285, Value.str (Str.ofString "quant") 286] }
noncomputable def o_81 (P : Params) : Obj := { cls := Value.type "dict", data := Data.dict #[{ hash := PyData.keyHash P (Str.ofString "__module__"), key := Value.str (Str.ofString "__module__") 267, val := Value.str (Str.ofString "pixelpress.frames") 250 }, { hash := PyData.keyHash P (Str.ofString "__firstlineno__"), key := Value.str (Str.ofString "__firstlineno__") 271, val := Value.int 14 270 }, { hash := PyData.keyHash P (Str.ofString "__init__"), key := Value.str (Str.ofString "__init__") 282, val := Value.ref 79 }, { hash := PyData.keyHash P (Str.ofString "__static_attributes__"), key := Value.str (Str.ofString "__static_attributes__") 287, val := Value.ref 80 }, { hash := PyData.keyHash P (Str.ofString "__dict__"), key := Value.str (Str.ofString "__dict__") 289, val := Value.ref 83 }, { hash := PyData.keyHash P (Str.ofString "__weakref__"), key := Value.str (Str.ofString "__weakref__") 291, val := Value.ref 84 }, { hash := PyData.keyHash P (Str.ofString "__doc__"), key := Value.str (Str.ofString "__doc__") 292, val := Value.none }] 4 }
noncomputable def o_82 (_ : Params) : Obj := { cls := Value.type "type", data := Data.cls { name := Str.ofString "Component", bases := [Value.type "object"], mro := [Value.ref 82, Value.type "object"], ns := 81, qualname := Str.ofString "Component" }, slots := #[none, none, some (Value.str (Str.ofString "Component") 260), some (Value.str (Str.ofString "Component") 268), some (Value.builtin "object.__new__"), some (Value.bool true)] }
noncomputable def o_83 (_ : Params) : Obj := { cls := Value.type "getset_descriptor", data := Data.fields #[Value.str (Str.ofString "__dict__") 288, Value.ref 82, Value.builtin "function.__dict__", Value.builtin "function.__dict__#set"] }
noncomputable def o_84 (_ : Params) : Obj := { cls := Value.type "getset_descriptor", data := Data.fields #[Value.str (Str.ofString "__weakref__") 290, Value.ref 82, Value.builtin "ExceptionGroup.__weakref__", Value.none] }
noncomputable def o_85 (_ : Params) : Obj := { cls := Value.type "super", data := Data.fields #[Value.ref 82, Value.ref 82, Value.ref 82] }
noncomputable def o_86 (_ : Params) : Obj := { cls := Value.type "builtin_function_or_method", data := Data.fields #[Value.builtin "object.__init_subclass__", Value.ref 82] }
noncomputable def o_87 (_ : Params) : Obj := { cls := Value.type "tuple", data := Data.seq #[] }
noncomputable def o_88 (_ : Params) : Obj := { cls := Value.type "builtin_function_or_method", data := Data.fields #[Value.builtin "type.__prepare__", Value.type "type"] }
noncomputable def o_89 (P : Params) : Obj := { cls := Value.type "dict", data := Data.dict #[{ hash := PyData.keyHash P (Str.ofString "__module__"), key := Value.str (Str.ofString "__module__") 302, val := Value.str (Str.ofString "pixelpress.frames") 250 }, { hash := PyData.keyHash P (Str.ofString "__qualname__"), key := Value.str (Str.ofString "__qualname__") 304, val := Value.str (Str.ofString "Frame") 303 }, { hash := PyData.keyHash P (Str.ofString "__firstlineno__"), key := Value.str (Str.ofString "__firstlineno__") 306, val := Value.int 21 305 }, { hash := PyData.keyHash P (Str.ofString "__init__"), key := Value.str (Str.ofString "__init__") 319, val := Value.ref 100 }, { hash := PyData.keyHash P (Str.ofString "most_across"), key := Value.str (Str.ofString "most_across") 325, val := Value.ref 105 }, { hash := PyData.keyHash P (Str.ofString "most_down"), key := Value.str (Str.ofString "most_down") 331, val := Value.ref 110 }, { hash := PyData.keyHash P (Str.ofString "mcus_across"), key := Value.str (Str.ofString "mcus_across") 338, val := Value.ref 117 }, { hash := PyData.keyHash P (Str.ofString "mcus_down"), key := Value.str (Str.ofString "mcus_down") 345, val := Value.ref 124 }, { hash := PyData.keyHash P (Str.ofString "plane_size"), key := Value.str (Str.ofString "plane_size") 355, val := Value.ref 131 }, { hash := PyData.keyHash P (Str.ofString "blocks"), key := Value.str (Str.ofString "blocks") 365, val := Value.ref 138 }, { hash := PyData.keyHash P (Str.ofString "padded"), key := Value.str (Str.ofString "padded") 374, val := Value.ref 145 }, { hash := PyData.keyHash P (Str.ofString "__static_attributes__"), key := Value.str (Str.ofString "__static_attributes__") 381, val := Value.ref 146 }] 12 }
noncomputable def o_90 (_ : Params) : Obj := { cls := Value.type "tuple", data := Data.seq #[] }
noncomputable def o_91 (_ : Params) : Obj := { cls := Value.none, data := Data.fields #[Value.int 23 0, Value.int 4 0, Value.ref 99, Value.int 31 0, Value.int 4 0, Value.ref 104, Value.int 34 0, Value.int 4 0, Value.ref 109, Value.int 37 0, Value.int 4 0, Value.ref 116, Value.int 40 0, Value.int 4 0, Value.ref 123, Value.int 43 0, Value.int 4 0, Value.ref 130, Value.int 48 0, Value.int 4 0, Value.ref 137, Value.int 52 0, Value.int 4 0, Value.ref 144] }
noncomputable def o_92 (_ : Params) : Obj := { cls := Value.type "code", data := Data.fields #[Value.str (Str.ofString "Frame") 297, Value.str (Str.ofString "Frame") 298, Value.str (Str.ofString "/claim/cut.py") 299, Value.int 21 0, Value.int 0 0, Value.int 0 0, Value.int 0 0, Value.int 0 0, Value.ref 90, Value.bool false, Value.int 181 0, Value.ref 91, Value.none, Value.none, Value.none, Value.none, Value.int 300 0, Value.int 21 0, Value.str (Str.ofString "/claim/cut.py") 301] }
noncomputable def o_93 (_ : Params) : Obj := { cls := Value.type "frame", slots := #[some (Value.ref 92), some (Value.ref 3), some (Value.ref 89), none, some (Value.str (Str.ofString "pixelpress.frames") 250), none, some (Value.ref 0)] }
noncomputable def o_94 (_ : Params) : Obj := { cls := Value.type "tuple", data := Data.seq #[] }
noncomputable def o_95 (_ : Params) : Obj := { cls := Value.none, data := Data.fields #[] }
noncomputable def o_96 (_ : Params) : Obj := { cls := Value.type "tuple", data := Data.seq #[Value.str (Str.ofString "self") 310, Value.str (Str.ofString "kind") 311, Value.str (Str.ofString "precision") 312, Value.str (Str.ofString "height") 313, Value.str (Str.ofString "width") 314, Value.str (Str.ofString "components") 315, Value.str (Str.ofString "n") 316] }
noncomputable def o_97 (_ : Params) : Obj := { cls := Value.type "tuple", data := Data.seq #[] }
noncomputable def o_98 (_ : Params) : Obj := { cls := Value.none, data := Data.func { name := Str.ofString "__init__", qualname := Str.ofString "Frame.__init__", params := argS (methS 7 0), body := FuncBody.stmts (inS (methS 7 0)), scope := scoS (methS 7 0), globals := 0, closure := [], defaults := Value.none, kwdefaults := Value.none } }
noncomputable def o_99 (_ : Params) : Obj := { cls := Value.type "code", data := Data.fields #[Value.str (Str.ofString "__init__") 307, Value.str (Str.ofString "Frame.__init__") 308, Value.str (Str.ofString "/claim/cut.py") 309, Value.int 23 0, Value.int 7 0, Value.int 0 0, Value.int 0 0, Value.int 3 0, Value.ref 94, Value.bool true, Value.int 181 0, Value.ref 95, Value.none, Value.ref 96, Value.ref 97, Value.ref 98, Value.int 317 0, Value.int 23 0, Value.str (Str.ofString "/claim/cut.py") 318] }
noncomputable def o_100 (_ : Params) : Obj := { cls := Value.type "function", data := Data.func { name := Str.ofString "__init__", qualname := Str.ofString "Frame.__init__", params := argS (methS 7 0), body := FuncBody.stmts (inS (methS 7 0)), scope := scoS (methS 7 0), globals := 3, closure := [], defaults := Value.none, kwdefaults := Value.none, pyModule := Value.str (Str.ofString "pixelpress.frames") 250, code := Value.ref 99 } }
noncomputable def o_101 (_ : Params) : Obj := { cls := Value.type "tuple", data := Data.seq #[] }
noncomputable def o_102 (_ : Params) : Obj := { cls := Value.none, data := Data.fields #[] }
noncomputable def o_103 (_ : Params) : Obj := { cls := Value.none, data := Data.func { name := Str.ofString "most_across", qualname := Str.ofString "Frame.most_across", params := argS (methS 7 1), body := FuncBody.stmts (inS (methS 7 1)), scope := scoS (methS 7 1), globals := 0, closure := [], defaults := Value.none, kwdefaults := Value.none } }
noncomputable def o_104 (_ : Params) : Obj := { cls := Value.type "code", data := Data.fields #[Value.str (Str.ofString "most_across") 320, Value.str (Str.ofString "Frame.most_across") 321, Value.str (Str.ofString "/claim/cut.py") 322, Value.int 31 0, Value.int 1 0, Value.int 0 0, Value.int 0 0, Value.int 3 0, Value.ref 101, Value.bool true, Value.int 181 0, Value.ref 102, Value.none, Value.none, Value.none, Value.ref 103, Value.int 323 0, Value.int 31 0, Value.str (Str.ofString "/claim/cut.py") 324] }
noncomputable def o_105 (_ : Params) : Obj := { cls := Value.type "function", data := Data.func { name := Str.ofString "most_across", qualname := Str.ofString "Frame.most_across", params := argS (methS 7 1), body := FuncBody.stmts (inS (methS 7 1)), scope := scoS (methS 7 1), globals := 3, closure := [], defaults := Value.none, kwdefaults := Value.none, pyModule := Value.str (Str.ofString "pixelpress.frames") 250, code := Value.ref 104 } }
noncomputable def o_106 (_ : Params) : Obj := { cls := Value.type "tuple", data := Data.seq #[] }
noncomputable def o_107 (_ : Params) : Obj := { cls := Value.none, data := Data.fields #[] }
noncomputable def o_108 (_ : Params) : Obj := { cls := Value.none, data := Data.func { name := Str.ofString "most_down", qualname := Str.ofString "Frame.most_down", params := argS (methS 7 2), body := FuncBody.stmts (inS (methS 7 2)), scope := scoS (methS 7 2), globals := 0, closure := [], defaults := Value.none, kwdefaults := Value.none } }
noncomputable def o_109 (_ : Params) : Obj := { cls := Value.type "code", data := Data.fields #[Value.str (Str.ofString "most_down") 326, Value.str (Str.ofString "Frame.most_down") 327, Value.str (Str.ofString "/claim/cut.py") 328, Value.int 34 0, Value.int 1 0, Value.int 0 0, Value.int 0 0, Value.int 3 0, Value.ref 106, Value.bool true, Value.int 181 0, Value.ref 107, Value.none, Value.none, Value.none, Value.ref 108, Value.int 329 0, Value.int 34 0, Value.str (Str.ofString "/claim/cut.py") 330] }
noncomputable def o_110 (_ : Params) : Obj := { cls := Value.type "function", data := Data.func { name := Str.ofString "most_down", qualname := Str.ofString "Frame.most_down", params := argS (methS 7 2), body := FuncBody.stmts (inS (methS 7 2)), scope := scoS (methS 7 2), globals := 3, closure := [], defaults := Value.none, kwdefaults := Value.none, pyModule := Value.str (Str.ofString "pixelpress.frames") 250, code := Value.ref 109 } }
noncomputable def o_111 (_ : Params) : Obj := { cls := Value.type "tuple", data := Data.seq #[] }
noncomputable def o_112 (_ : Params) : Obj := { cls := Value.none, data := Data.fields #[] }
noncomputable def o_113 (_ : Params) : Obj := { cls := Value.type "tuple", data := Data.seq #[Value.str (Str.ofString "self") 335] }
noncomputable def o_114 (_ : Params) : Obj := { cls := Value.type "tuple", data := Data.seq #[] }
noncomputable def o_115 (_ : Params) : Obj := { cls := Value.none, data := Data.func { name := Str.ofString "mcus_across", qualname := Str.ofString "Frame.mcus_across", params := argS (methS 7 3), body := FuncBody.stmts (inS (methS 7 3)), scope := scoS (methS 7 3), globals := 0, closure := [], defaults := Value.none, kwdefaults := Value.none } }
noncomputable def o_116 (_ : Params) : Obj := { cls := Value.type "code", data := Data.fields #[Value.str (Str.ofString "mcus_across") 332, Value.str (Str.ofString "Frame.mcus_across") 333, Value.str (Str.ofString "/claim/cut.py") 334, Value.int 37 0, Value.int 1 0, Value.int 0 0, Value.int 0 0, Value.int 3 0, Value.ref 111, Value.bool true, Value.int 181 0, Value.ref 112, Value.none, Value.ref 113, Value.ref 114, Value.ref 115, Value.int 336 0, Value.int 37 0, Value.str (Str.ofString "/claim/cut.py") 337] }
noncomputable def o_117 (_ : Params) : Obj := { cls := Value.type "function", data := Data.func { name := Str.ofString "mcus_across", qualname := Str.ofString "Frame.mcus_across", params := argS (methS 7 3), body := FuncBody.stmts (inS (methS 7 3)), scope := scoS (methS 7 3), globals := 3, closure := [], defaults := Value.none, kwdefaults := Value.none, pyModule := Value.str (Str.ofString "pixelpress.frames") 250, code := Value.ref 116 } }
noncomputable def o_118 (_ : Params) : Obj := { cls := Value.type "tuple", data := Data.seq #[] }
noncomputable def o_119 (_ : Params) : Obj := { cls := Value.none, data := Data.fields #[] }
noncomputable def o_120 (_ : Params) : Obj := { cls := Value.type "tuple", data := Data.seq #[Value.str (Str.ofString "self") 342] }
noncomputable def o_121 (_ : Params) : Obj := { cls := Value.type "tuple", data := Data.seq #[] }
noncomputable def o_122 (_ : Params) : Obj := { cls := Value.none, data := Data.func { name := Str.ofString "mcus_down", qualname := Str.ofString "Frame.mcus_down", params := argS (methS 7 4), body := FuncBody.stmts (inS (methS 7 4)), scope := scoS (methS 7 4), globals := 0, closure := [], defaults := Value.none, kwdefaults := Value.none } }
noncomputable def o_123 (_ : Params) : Obj := { cls := Value.type "code", data := Data.fields #[Value.str (Str.ofString "mcus_down") 339, Value.str (Str.ofString "Frame.mcus_down") 340, Value.str (Str.ofString "/claim/cut.py") 341, Value.int 40 0, Value.int 1 0, Value.int 0 0, Value.int 0 0, Value.int 3 0, Value.ref 118, Value.bool true, Value.int 181 0, Value.ref 119, Value.none, Value.ref 120, Value.ref 121, Value.ref 122, Value.int 343 0, Value.int 40 0, Value.str (Str.ofString "/claim/cut.py") 344] }
noncomputable def o_124 (_ : Params) : Obj := { cls := Value.type "function", data := Data.func { name := Str.ofString "mcus_down", qualname := Str.ofString "Frame.mcus_down", params := argS (methS 7 4), body := FuncBody.stmts (inS (methS 7 4)), scope := scoS (methS 7 4), globals := 3, closure := [], defaults := Value.none, kwdefaults := Value.none, pyModule := Value.str (Str.ofString "pixelpress.frames") 250, code := Value.ref 123 } }
noncomputable def o_125 (_ : Params) : Obj := { cls := Value.type "tuple", data := Data.seq #[] }
noncomputable def o_126 (_ : Params) : Obj := { cls := Value.none, data := Data.fields #[] }
noncomputable def o_127 (_ : Params) : Obj := { cls := Value.type "tuple", data := Data.seq #[Value.str (Str.ofString "self") 349, Value.str (Str.ofString "place") 350, Value.str (Str.ofString "component") 351, Value.str (Str.ofString "width") 352] }
noncomputable def o_128 (_ : Params) : Obj := { cls := Value.type "tuple", data := Data.seq #[] }
noncomputable def o_129 (_ : Params) : Obj := { cls := Value.none, data := Data.func { name := Str.ofString "plane_size", qualname := Str.ofString "Frame.plane_size", params := argS (methS 7 5), body := FuncBody.stmts (inS (methS 7 5)), scope := scoS (methS 7 5), globals := 0, closure := [], defaults := Value.none, kwdefaults := Value.none } }
noncomputable def o_130 (_ : Params) : Obj := { cls := Value.type "code", data := Data.fields #[Value.str (Str.ofString "plane_size") 346, Value.str (Str.ofString "Frame.plane_size") 347, Value.str (Str.ofString "/claim/cut.py") 348, Value.int 43 0, Value.int 2 0, Value.int 0 0, Value.int 0 0, Value.int 3 0, Value.ref 125, Value.bool true, Value.int 181 0, Value.ref 126, Value.none, Value.ref 127, Value.ref 128, Value.ref 129, Value.int 353 0, Value.int 43 0, Value.str (Str.ofString "/claim/cut.py") 354] }
noncomputable def o_131 (_ : Params) : Obj := { cls := Value.type "function", data := Data.func { name := Str.ofString "plane_size", qualname := Str.ofString "Frame.plane_size", params := argS (methS 7 5), body := FuncBody.stmts (inS (methS 7 5)), scope := scoS (methS 7 5), globals := 3, closure := [], defaults := Value.none, kwdefaults := Value.none, pyModule := Value.str (Str.ofString "pixelpress.frames") 250, code := Value.ref 130 } }
noncomputable def o_132 (_ : Params) : Obj := { cls := Value.type "tuple", data := Data.seq #[] }
noncomputable def o_133 (_ : Params) : Obj := { cls := Value.none, data := Data.fields #[] }
noncomputable def o_134 (_ : Params) : Obj := { cls := Value.type "tuple", data := Data.seq #[Value.str (Str.ofString "self") 359, Value.str (Str.ofString "place") 360, Value.str (Str.ofString "width") 361, Value.str (Str.ofString "height") 362] }
noncomputable def o_135 (_ : Params) : Obj := { cls := Value.type "tuple", data := Data.seq #[] }
noncomputable def o_136 (_ : Params) : Obj := { cls := Value.none, data := Data.func { name := Str.ofString "blocks", qualname := Str.ofString "Frame.blocks", params := argS (methS 7 6), body := FuncBody.stmts (inS (methS 7 6)), scope := scoS (methS 7 6), globals := 0, closure := [], defaults := Value.none, kwdefaults := Value.none } }
noncomputable def o_137 (_ : Params) : Obj := { cls := Value.type "code", data := Data.fields #[Value.str (Str.ofString "blocks") 356, Value.str (Str.ofString "Frame.blocks") 357, Value.str (Str.ofString "/claim/cut.py") 358, Value.int 48 0, Value.int 2 0, Value.int 0 0, Value.int 0 0, Value.int 3 0, Value.ref 132, Value.bool true, Value.int 181 0, Value.ref 133, Value.none, Value.ref 134, Value.ref 135, Value.ref 136, Value.int 363 0, Value.int 48 0, Value.str (Str.ofString "/claim/cut.py") 364] }
noncomputable def o_138 (_ : Params) : Obj := { cls := Value.type "function", data := Data.func { name := Str.ofString "blocks", qualname := Str.ofString "Frame.blocks", params := argS (methS 7 6), body := FuncBody.stmts (inS (methS 7 6)), scope := scoS (methS 7 6), globals := 3, closure := [], defaults := Value.none, kwdefaults := Value.none, pyModule := Value.str (Str.ofString "pixelpress.frames") 250, code := Value.ref 137 } }
noncomputable def o_139 (_ : Params) : Obj := { cls := Value.type "tuple", data := Data.seq #[] }
noncomputable def o_140 (_ : Params) : Obj := { cls := Value.none, data := Data.fields #[] }
noncomputable def o_141 (_ : Params) : Obj := { cls := Value.type "tuple", data := Data.seq #[Value.str (Str.ofString "self") 369, Value.str (Str.ofString "place") 370, Value.str (Str.ofString "component") 371] }
noncomputable def o_142 (_ : Params) : Obj := { cls := Value.type "tuple", data := Data.seq #[] }
noncomputable def o_143 (_ : Params) : Obj := { cls := Value.none, data := Data.func { name := Str.ofString "padded", qualname := Str.ofString "Frame.padded", params := argS (methS 7 7), body := FuncBody.stmts (inS (methS 7 7)), scope := scoS (methS 7 7), globals := 0, closure := [], defaults := Value.none, kwdefaults := Value.none } }
noncomputable def o_144 (_ : Params) : Obj := { cls := Value.type "code", data := Data.fields #[Value.str (Str.ofString "padded") 366, Value.str (Str.ofString "Frame.padded") 367, Value.str (Str.ofString "/claim/cut.py") 368, Value.int 52 0, Value.int 2 0, Value.int 0 0, Value.int 0 0, Value.int 3 0, Value.ref 139, Value.bool true, Value.int 181 0, Value.ref 140, Value.none, Value.ref 141, Value.ref 142, Value.ref 143, Value.int 372 0, Value.int 52 0, Value.str (Str.ofString "/claim/cut.py") 373] }
noncomputable def o_145 (_ : Params) : Obj := { cls := Value.type "function", data := Data.func { name := Str.ofString "padded", qualname := Str.ofString "Frame.padded", params := argS (methS 7 7), body := FuncBody.stmts (inS (methS 7 7)), scope := scoS (methS 7 7), globals := 3, closure := [], defaults := Value.none, kwdefaults := Value.none, pyModule := Value.str (Str.ofString "pixelpress.frames") 250, code := Value.ref 144 } }
noncomputable def o_146 (_ : Params) : Obj := { cls := Value.type "tuple", data := Data.seq #[Value.str (Str.ofString "components") 375, Value.str (Str.ofString "height") 376, Value.str (Str.ofString "kind") 377, Value.str (Str.ofString "n") 378, Value.str (Str.ofString "precision") 379, Value.str (Str.ofString "width") 380] }
noncomputable def o_147 (P : Params) : Obj := { cls := Value.type "dict", data := Data.dict #[{ hash := PyData.keyHash P (Str.ofString "__module__"), key := Value.str (Str.ofString "__module__") 302, val := Value.str (Str.ofString "pixelpress.frames") 250 }, { hash := PyData.keyHash P (Str.ofString "__firstlineno__"), key := Value.str (Str.ofString "__firstlineno__") 306, val := Value.int 21 305 }, { hash := PyData.keyHash P (Str.ofString "__init__"), key := Value.str (Str.ofString "__init__") 319, val := Value.ref 100 }, { hash := PyData.keyHash P (Str.ofString "most_across"), key := Value.str (Str.ofString "most_across") 325, val := Value.ref 105 }, { hash := PyData.keyHash P (Str.ofString "most_down"), key := Value.str (Str.ofString "most_down") 331, val := Value.ref 110 }, { hash := PyData.keyHash P (Str.ofString "mcus_across"), key := Value.str (Str.ofString "mcus_across") 338, val := Value.ref 117 }, { hash := PyData.keyHash P (Str.ofString "mcus_down"), key := Value.str (Str.ofString "mcus_down") 345, val := Value.ref 124 }, { hash := PyData.keyHash P (Str.ofString "plane_size"), key := Value.str (Str.ofString "plane_size") 355, val := Value.ref 131 }, { hash := PyData.keyHash P (Str.ofString "blocks"), key := Value.str (Str.ofString "blocks") 365, val := Value.ref 138 }, { hash := PyData.keyHash P (Str.ofString "padded"), key := Value.str (Str.ofString "padded") 374, val := Value.ref 145 }, { hash := PyData.keyHash P (Str.ofString "__static_attributes__"), key := Value.str (Str.ofString "__static_attributes__") 381, val := Value.ref 146 }, { hash := PyData.keyHash P (Str.ofString "__dict__"), key := Value.str (Str.ofString "__dict__") 383, val := Value.ref 149 }, { hash := PyData.keyHash P (Str.ofString "__weakref__"), key := Value.str (Str.ofString "__weakref__") 385, val := Value.ref 150 }, { hash := PyData.keyHash P (Str.ofString "__doc__"), key := Value.str (Str.ofString "__doc__") 386, val := Value.none }] 4 }
noncomputable def o_148 (_ : Params) : Obj := { cls := Value.type "type", data := Data.cls { name := Str.ofString "Frame", bases := [Value.type "object"], mro := [Value.ref 148, Value.type "object"], ns := 147, qualname := Str.ofString "Frame" }, slots := #[none, none, some (Value.str (Str.ofString "Frame") 295), some (Value.str (Str.ofString "Frame") 303), some (Value.builtin "object.__new__"), some (Value.bool true)] }
noncomputable def o_149 (_ : Params) : Obj := { cls := Value.type "getset_descriptor", data := Data.fields #[Value.str (Str.ofString "__dict__") 382, Value.ref 148, Value.builtin "function.__dict__", Value.builtin "function.__dict__#set"] }
noncomputable def o_150 (_ : Params) : Obj := { cls := Value.type "getset_descriptor", data := Data.fields #[Value.str (Str.ofString "__weakref__") 384, Value.ref 148, Value.builtin "ExceptionGroup.__weakref__", Value.none] }
noncomputable def o_151 (_ : Params) : Obj := { cls := Value.type "super", data := Data.fields #[Value.ref 148, Value.ref 148, Value.ref 148] }
noncomputable def o_152 (_ : Params) : Obj := { cls := Value.type "builtin_function_or_method", data := Data.fields #[Value.builtin "object.__init_subclass__", Value.ref 148] }
noncomputable def o_153 (_ : Params) : Obj := { cls := Value.type "tuple", data := Data.seq #[] }
noncomputable def o_154 (_ : Params) : Obj := { cls := Value.type "builtin_function_or_method", data := Data.fields #[Value.builtin "type.__prepare__", Value.type "type"] }
noncomputable def o_155 (P : Params) : Obj := { cls := Value.type "dict", data := Data.dict #[{ hash := PyData.keyHash P (Str.ofString "__module__"), key := Value.str (Str.ofString "__module__") 398, val := Value.str (Str.ofString "pixelpress.grid") 389 }, { hash := PyData.keyHash P (Str.ofString "__qualname__"), key := Value.str (Str.ofString "__qualname__") 400, val := Value.str (Str.ofString "Grid") 399 }, { hash := PyData.keyHash P (Str.ofString "__firstlineno__"), key := Value.str (Str.ofString "__firstlineno__") 402, val := Value.int 56 401 }, { hash := PyData.keyHash P (Str.ofString "__init__"), key := Value.str (Str.ofString "__init__") 408, val := Value.ref 164 }, { hash := PyData.keyHash P (Str.ofString "get"), key := Value.str (Str.ofString "get") 419, val := Value.ref 171 }, { hash := PyData.keyHash P (Str.ofString "put"), key := Value.str (Str.ofString "put") 430, val := Value.ref 178 }, { hash := PyData.keyHash P (Str.ofString "__static_attributes__"), key := Value.str (Str.ofString "__static_attributes__") 433, val := Value.ref 179 }] 7 }
noncomputable def o_156 (_ : Params) : Obj := { cls := Value.type "tuple", data := Data.seq #[] }
noncomputable def o_157 (_ : Params) : Obj := { cls := Value.none, data := Data.fields #[Value.int 58 0, Value.int 4 0, Value.ref 163, Value.int 65 0, Value.int 4 0, Value.ref 170, Value.int 69 0, Value.int 4 0, Value.ref 177] }
noncomputable def o_158 (_ : Params) : Obj := { cls := Value.type "code", data := Data.fields #[Value.str (Str.ofString "Grid") 393, Value.str (Str.ofString "Grid") 394, Value.str (Str.ofString "/claim/cut.py") 395, Value.int 56 0, Value.int 0 0, Value.int 0 0, Value.int 0 0, Value.int 0 0, Value.ref 156, Value.bool false, Value.int 181 0, Value.ref 157, Value.none, Value.none, Value.none, Value.none, Value.int 396 0, Value.int 56 0, Value.str (Str.ofString "/claim/cut.py") 397] }
noncomputable def o_159 (_ : Params) : Obj := { cls := Value.type "frame", slots := #[some (Value.ref 158), some (Value.ref 3), some (Value.ref 155), none, some (Value.str (Str.ofString "pixelpress.grid") 389), none, some (Value.ref 0)] }
noncomputable def o_160 (_ : Params) : Obj := { cls := Value.type "tuple", data := Data.seq #[] }
noncomputable def o_161 (_ : Params) : Obj := { cls := Value.none, data := Data.fields #[] }
noncomputable def o_162 (_ : Params) : Obj := { cls := Value.none, data := Data.func { name := Str.ofString "__init__", qualname := Str.ofString "Grid.__init__", params := argS (methS 9 0), body := FuncBody.stmts (inS (methS 9 0)), scope := scoS (methS 9 0), globals := 0, closure := [], defaults := Value.none, kwdefaults := Value.none } }
noncomputable def o_163 (_ : Params) : Obj := { cls := Value.type "code", data := Data.fields #[Value.str (Str.ofString "__init__") 403, Value.str (Str.ofString "Grid.__init__") 404, Value.str (Str.ofString "/claim/cut.py") 405, Value.int 58 0, Value.int 2 0, Value.int 0 0, Value.int 0 0, Value.int 3 0, Value.ref 160, Value.bool true, Value.int 181 0, Value.ref 161, Value.none, Value.none, Value.none, Value.ref 162, Value.int 406 0, Value.int 58 0, Value.str (Str.ofString "/claim/cut.py") 407] }
noncomputable def o_164 (_ : Params) : Obj := { cls := Value.type "function", data := Data.func { name := Str.ofString "__init__", qualname := Str.ofString "Grid.__init__", params := argS (methS 9 0), body := FuncBody.stmts (inS (methS 9 0)), scope := scoS (methS 9 0), globals := 3, closure := [], defaults := Value.none, kwdefaults := Value.none, pyModule := Value.str (Str.ofString "pixelpress.grid") 389, code := Value.ref 163 } }
noncomputable def o_165 (_ : Params) : Obj := { cls := Value.type "tuple", data := Data.seq #[] }
noncomputable def o_166 (_ : Params) : Obj := { cls := Value.none, data := Data.fields #[] }
noncomputable def o_167 (_ : Params) : Obj := { cls := Value.type "tuple", data := Data.seq #[Value.str (Str.ofString "self") 412, Value.str (Str.ofString "place") 413, Value.str (Str.ofString "x") 414, Value.str (Str.ofString "y") 415, Value.str (Str.ofString "row") 416] }
noncomputable def o_168 (_ : Params) : Obj := { cls := Value.type "tuple", data := Data.seq #[] }
noncomputable def o_169 (_ : Params) : Obj := { cls := Value.none, data := Data.func { name := Str.ofString "get", qualname := Str.ofString "Grid.get", params := argS (methS 9 1), body := FuncBody.stmts (inS (methS 9 1)), scope := scoS (methS 9 1), globals := 0, closure := [], defaults := Value.none, kwdefaults := Value.none } }
noncomputable def o_170 (_ : Params) : Obj := { cls := Value.type "code", data := Data.fields #[Value.str (Str.ofString "get") 409, Value.str (Str.ofString "Grid.get") 410, Value.str (Str.ofString "/claim/cut.py") 411, Value.int 65 0, Value.int 4 0, Value.int 0 0, Value.int 0 0, Value.int 3 0, Value.ref 165, Value.bool true, Value.int 181 0, Value.ref 166, Value.none, Value.ref 167, Value.ref 168, Value.ref 169, Value.int 417 0, Value.int 65 0, Value.str (Str.ofString "/claim/cut.py") 418] }
noncomputable def o_171 (_ : Params) : Obj := { cls := Value.type "function", data := Data.func { name := Str.ofString "get", qualname := Str.ofString "Grid.get", params := argS (methS 9 1), body := FuncBody.stmts (inS (methS 9 1)), scope := scoS (methS 9 1), globals := 3, closure := [], defaults := Value.none, kwdefaults := Value.none, pyModule := Value.str (Str.ofString "pixelpress.grid") 389, code := Value.ref 170 } }
noncomputable def o_172 (_ : Params) : Obj := { cls := Value.type "tuple", data := Data.seq #[] }
noncomputable def o_173 (_ : Params) : Obj := { cls := Value.none, data := Data.fields #[] }
noncomputable def o_174 (_ : Params) : Obj := { cls := Value.type "tuple", data := Data.seq #[Value.str (Str.ofString "self") 423, Value.str (Str.ofString "place") 424, Value.str (Str.ofString "x") 425, Value.str (Str.ofString "y") 426, Value.str (Str.ofString "row") 427] }
noncomputable def o_175 (_ : Params) : Obj := { cls := Value.type "tuple", data := Data.seq #[] }
noncomputable def o_176 (_ : Params) : Obj := { cls := Value.none, data := Data.func { name := Str.ofString "put", qualname := Str.ofString "Grid.put", params := argS (methS 9 2), body := FuncBody.stmts (inS (methS 9 2)), scope := scoS (methS 9 2), globals := 0, closure := [], defaults := Value.none, kwdefaults := Value.none } }
noncomputable def o_177 (_ : Params) : Obj := { cls := Value.type "code", data := Data.fields #[Value.str (Str.ofString "put") 420, Value.str (Str.ofString "Grid.put") 421, Value.str (Str.ofString "/claim/cut.py") 422, Value.int 69 0, Value.int 5 0, Value.int 0 0, Value.int 0 0, Value.int 3 0, Value.ref 172, Value.bool true, Value.int 181 0, Value.ref 173, Value.none, Value.ref 174, Value.ref 175, Value.ref 176, Value.int 428 0, Value.int 69 0, Value.str (Str.ofString "/claim/cut.py") 429] }
noncomputable def o_178 (_ : Params) : Obj := { cls := Value.type "function", data := Data.func { name := Str.ofString "put", qualname := Str.ofString "Grid.put", params := argS (methS 9 2), body := FuncBody.stmts (inS (methS 9 2)), scope := scoS (methS 9 2), globals := 3, closure := [], defaults := Value.none, kwdefaults := Value.none, pyModule := Value.str (Str.ofString "pixelpress.grid") 389, code := Value.ref 177 } }
noncomputable def o_179 (_ : Params) : Obj := { cls := Value.type "tuple", data := Data.seq #[Value.str (Str.ofString "many") 431, Value.str (Str.ofString "planes") 432] }
noncomputable def o_180 (P : Params) : Obj := { cls := Value.type "dict", data := Data.dict #[{ hash := PyData.keyHash P (Str.ofString "__module__"), key := Value.str (Str.ofString "__module__") 398, val := Value.str (Str.ofString "pixelpress.grid") 389 }, { hash := PyData.keyHash P (Str.ofString "__firstlineno__"), key := Value.str (Str.ofString "__firstlineno__") 402, val := Value.int 56 401 }, { hash := PyData.keyHash P (Str.ofString "__init__"), key := Value.str (Str.ofString "__init__") 408, val := Value.ref 164 }, { hash := PyData.keyHash P (Str.ofString "get"), key := Value.str (Str.ofString "get") 419, val := Value.ref 171 }, { hash := PyData.keyHash P (Str.ofString "put"), key := Value.str (Str.ofString "put") 430, val := Value.ref 178 }, { hash := PyData.keyHash P (Str.ofString "__static_attributes__"), key := Value.str (Str.ofString "__static_attributes__") 433, val := Value.ref 179 }, { hash := PyData.keyHash P (Str.ofString "__dict__"), key := Value.str (Str.ofString "__dict__") 435, val := Value.ref 182 }, { hash := PyData.keyHash P (Str.ofString "__weakref__"), key := Value.str (Str.ofString "__weakref__") 437, val := Value.ref 183 }, { hash := PyData.keyHash P (Str.ofString "__doc__"), key := Value.str (Str.ofString "__doc__") 438, val := Value.none }] 4 }
noncomputable def o_181 (_ : Params) : Obj := { cls := Value.type "type", data := Data.cls { name := Str.ofString "Grid", bases := [Value.type "object"], mro := [Value.ref 181, Value.type "object"], ns := 180, qualname := Str.ofString "Grid" }, slots := #[none, none, some (Value.str (Str.ofString "Grid") 391), some (Value.str (Str.ofString "Grid") 399), some (Value.builtin "object.__new__"), some (Value.bool true)] }
noncomputable def o_182 (_ : Params) : Obj := { cls := Value.type "getset_descriptor", data := Data.fields #[Value.str (Str.ofString "__dict__") 434, Value.ref 181, Value.builtin "function.__dict__", Value.builtin "function.__dict__#set"] }
noncomputable def o_183 (_ : Params) : Obj := { cls := Value.type "getset_descriptor", data := Data.fields #[Value.str (Str.ofString "__weakref__") 436, Value.ref 181, Value.builtin "ExceptionGroup.__weakref__", Value.none] }
noncomputable def o_184 (_ : Params) : Obj := { cls := Value.type "super", data := Data.fields #[Value.ref 181, Value.ref 181, Value.ref 181] }
noncomputable def o_185 (_ : Params) : Obj := { cls := Value.type "builtin_function_or_method", data := Data.fields #[Value.builtin "object.__init_subclass__", Value.ref 181] }
noncomputable def o_186 (_ : Params) : Obj := { cls := Value.type "tuple", data := Data.seq #[] }
noncomputable def o_187 (_ : Params) : Obj := { cls := Value.none, data := Data.fields #[] }
noncomputable def o_188 (_ : Params) : Obj := { cls := Value.type "tuple", data := Data.seq #[Value.str (Str.ofString "n") 446, Value.str (Str.ofString "found") 447, Value.str (Str.ofString "total") 448, Value.str (Str.ofString "low") 449, Value.str (Str.ofString "high") 450, Value.str (Str.ofString "rows") 451, Value.str (Str.ofString "y") 452] }
noncomputable def o_189 (_ : Params) : Obj := { cls := Value.type "tuple", data := Data.seq #[] }
noncomputable def o_190 (_ : Params) : Obj := { cls := Value.none, data := Data.func { name := Str.ofString "zigzag_places", qualname := Str.ofString "zigzag_places", params := argS (topS 11), body := FuncBody.stmts (inS (topS 11)), scope := scoS (topS 11), globals := 0, closure := [], defaults := Value.none, kwdefaults := Value.none } }
noncomputable def o_191 (_ : Params) : Obj := { cls := Value.type "code", data := Data.fields #[Value.str (Str.ofString "zigzag_places") 443, Value.str (Str.ofString "zigzag_places") 444, Value.str (Str.ofString "/claim/cut.py") 445, Value.int 72 0, Value.int 1 0, Value.int 0 0, Value.int 0 0, Value.int 3 0, Value.ref 186, Value.bool true, Value.int 181 0, Value.ref 187, Value.none, Value.ref 188, Value.ref 189, Value.ref 190, Value.int 453 0, Value.int 72 0, Value.str (Str.ofString "/claim/cut.py") 454] }
noncomputable def o_192 (_ : Params) : Obj := { cls := Value.type "function", data := Data.func { name := Str.ofString "zigzag_places", qualname := Str.ofString "zigzag_places", params := argS (topS 11), body := FuncBody.stmts (inS (topS 11)), scope := scoS (topS 11), globals := 3, closure := [], defaults := Value.none, kwdefaults := Value.none, pyModule := Value.str (Str.ofString "pixelpress.zigzag") 441, code := Value.ref 191 } }
noncomputable def o_193 (P : Params) : Obj := { cls := Value.type "frame", data := Data.dict #[{ hash := PyData.keyHash P (Str.ofString "n"), key := Value.str (Str.ofString "n") 457, val := Value.int 8 456 }, { hash := PyData.keyHash P (Str.ofString "found"), key := Value.str (Str.ofString "found") 458, val := Value.ref 194 }, { hash := PyData.keyHash P (Str.ofString "total"), key := Value.str (Str.ofString "total") 466, val := Value.int 14 1025 }, { hash := PyData.keyHash P (Str.ofString "low"), key := Value.str (Str.ofString "low") 471, val := Value.int 7 1030 }, { hash := PyData.keyHash P (Str.ofString "high"), key := Value.str (Str.ofString "high") 474, val := Value.int 7 1033 }, { hash := PyData.keyHash P (Str.ofString "rows"), key := Value.str (Str.ofString "rows") 482, val := Value.ref 403 }, { hash := PyData.keyHash P (Str.ofString "y"), key := Value.str (Str.ofString "y") 484, val := Value.int 7 1043 }] 7 }
noncomputable def o_194 (_ : Params) : Obj := { cls := Value.type "list", data := Data.seq #[Value.int 0 487, Value.int 1 509, Value.int 8 514, Value.int 16 537, Value.int 9 542, Value.int 2 547, Value.int 3 569, Value.int 10 574, Value.int 17 579, Value.int 24 584, Value.int 32 607, Value.int 25 612, Value.int 18 617, Value.int 11 622, Value.int 4 627, Value.int 5 649, Value.int 12 654, Value.int 19 659, Value.int 26 664, Value.int 33 669, Value.int 40 674, Value.int 48 697, Value.int 41 702, Value.int 34 707, Value.int 27 712, Value.int 20 717, Value.int 13 722, Value.int 6 727, Value.int 7 749, Value.int 14 754, Value.int 21 759, Value.int 28 764, Value.int 35 769, Value.int 42 774, Value.int 49 779, Value.int 56 784, Value.int 57 807, Value.int 50 812, Value.int 43 817, Value.int 36 822, Value.int 29 827, Value.int 22 832, Value.int 15 837, Value.int 23 859, Value.int 30 864, Value.int 37 869, Value.int 44 874, Value.int 51 879, Value.int 58 884, Value.int 59 907, Value.int 52 912, Value.int 45 917, Value.int 38 922, Value.int 31 927, Value.int 39 949, Value.int 46 954, Value.int 53 959, Value.int 60 964, Value.int 61 987, Value.int 54 992, Value.int 47 997, Value.int 55 1019, Value.int 62 1024, Value.int 63 1047] 64 }
noncomputable def o_195 (_ : Params) : Obj := { cls := Value.type "range", data := Data.fields #[Value.int 0 463, Value.int 15 462, Value.int 1 464] }
noncomputable def o_196 (_ : Params) : Obj := { cls := Value.type "range_iterator", data := Data.fields #[Value.int 15 0, Value.int 0 0, Value.int 1 0] }
noncomputable def o_197 (_ : Params) : Obj := { cls := Value.type "tuple", data := Data.seq #[Value.int 0 467, Value.int (-7) 470] }
noncomputable def o_198 (_ : Params) : Obj := { cls := Value.type "tuple_iterator", data := Data.fields #[Value.none, Value.int 2 0] }
noncomputable def o_199 (_ : Params) : Obj := { cls := Value.type "list", data := Data.seq #[] 2 }
noncomputable def o_200 (_ : Params) : Obj := { cls := Value.type "tuple", data := Data.seq #[] }
noncomputable def o_201 (_ : Params) : Obj := { cls := Value.type "StopIteration", data := Data.fields #[Value.ref 200, Value.none, Value.none, Value.none, Value.bool false, Value.none] }
noncomputable def o_202 (_ : Params) : Obj := { cls := Value.type "tuple", data := Data.seq #[Value.int 0 465, Value.int 7 473] }
noncomputable def o_203 (_ : Params) : Obj := { cls := Value.type "tuple_iterator", data := Data.fields #[Value.none, Value.int 2 0] }
noncomputable def o_204 (_ : Params) : Obj := { cls := Value.type "list", data := Data.seq #[] 2 }
noncomputable def o_205 (_ : Params) : Obj := { cls := Value.type "tuple", data := Data.seq #[] }
noncomputable def o_206 (_ : Params) : Obj := { cls := Value.type "StopIteration", data := Data.fields #[Value.ref 205, Value.none, Value.none, Value.none, Value.bool false, Value.none] }
noncomputable def o_207 (_ : Params) : Obj := { cls := Value.type "range", data := Data.fields #[Value.int 0 465, Value.int (-1) 479, Value.int (-1) 481] }
noncomputable def o_208 (_ : Params) : Obj := { cls := Value.type "range_iterator", data := Data.fields #[Value.int (-1) 0, Value.int 0 0, Value.int (-1) 0] }
noncomputable def o_209 (_ : Params) : Obj := { cls := Value.type "tuple", data := Data.seq #[] }
noncomputable def o_210 (_ : Params) : Obj := { cls := Value.type "StopIteration", data := Data.fields #[Value.ref 209, Value.none, Value.none, Value.none, Value.bool false, Value.none] }
noncomputable def o_211 (_ : Params) : Obj := { cls := Value.type "tuple", data := Data.seq #[Value.int 0 490, Value.int (-6) 493] }
noncomputable def o_212 (_ : Params) : Obj := { cls := Value.type "tuple_iterator", data := Data.fields #[Value.none, Value.int 2 0] }
noncomputable def o_213 (_ : Params) : Obj := { cls := Value.type "list", data := Data.seq #[] 2 }
noncomputable def o_214 (_ : Params) : Obj := { cls := Value.type "tuple", data := Data.seq #[] }
noncomputable def o_215 (_ : Params) : Obj := { cls := Value.type "StopIteration", data := Data.fields #[Value.ref 214, Value.none, Value.none, Value.none, Value.bool false, Value.none] }
noncomputable def o_216 (_ : Params) : Obj := { cls := Value.type "tuple", data := Data.seq #[Value.int 1 488, Value.int 7 496] }
noncomputable def o_217 (_ : Params) : Obj := { cls := Value.type "tuple_iterator", data := Data.fields #[Value.none, Value.int 2 0] }
noncomputable def o_218 (_ : Params) : Obj := { cls := Value.type "list", data := Data.seq #[] 2 }
noncomputable def o_219 (_ : Params) : Obj := { cls := Value.type "tuple", data := Data.seq #[] }
noncomputable def o_220 (_ : Params) : Obj := { cls := Value.type "StopIteration", data := Data.fields #[Value.ref 219, Value.none, Value.none, Value.none, Value.bool false, Value.none] }
noncomputable def o_221 (_ : Params) : Obj := { cls := Value.type "range", data := Data.fields #[Value.int 0 490, Value.int 2 502, Value.int 1 503] }
noncomputable def o_222 (_ : Params) : Obj := { cls := Value.type "range_iterator", data := Data.fields #[Value.int 2 0, Value.int 0 0, Value.int 1 0] }
noncomputable def o_223 (_ : Params) : Obj := { cls := Value.type "tuple", data := Data.seq #[] }
noncomputable def o_224 (_ : Params) : Obj := { cls := Value.type "StopIteration", data := Data.fields #[Value.ref 223, Value.none, Value.none, Value.none, Value.bool false, Value.none] }
noncomputable def o_225 (_ : Params) : Obj := { cls := Value.type "tuple", data := Data.seq #[Value.int 0 517, Value.int (-5) 520] }
noncomputable def o_226 (_ : Params) : Obj := { cls := Value.type "tuple_iterator", data := Data.fields #[Value.none, Value.int 2 0] }
noncomputable def o_227 (_ : Params) : Obj := { cls := Value.type "list", data := Data.seq #[] 2 }
noncomputable def o_228 (_ : Params) : Obj := { cls := Value.type "tuple", data := Data.seq #[] }
noncomputable def o_229 (_ : Params) : Obj := { cls := Value.type "StopIteration", data := Data.fields #[Value.ref 228, Value.none, Value.none, Value.none, Value.bool false, Value.none] }
noncomputable def o_230 (_ : Params) : Obj := { cls := Value.type "tuple", data := Data.seq #[Value.int 2 515, Value.int 7 523] }
noncomputable def o_231 (_ : Params) : Obj := { cls := Value.type "tuple_iterator", data := Data.fields #[Value.none, Value.int 2 0] }
noncomputable def o_232 (_ : Params) : Obj := { cls := Value.type "list", data := Data.seq #[] 2 }
noncomputable def o_233 (_ : Params) : Obj := { cls := Value.type "tuple", data := Data.seq #[] }
noncomputable def o_234 (_ : Params) : Obj := { cls := Value.type "StopIteration", data := Data.fields #[Value.ref 233, Value.none, Value.none, Value.none, Value.bool false, Value.none] }
noncomputable def o_235 (_ : Params) : Obj := { cls := Value.type "range", data := Data.fields #[Value.int 2 515, Value.int (-1) 529, Value.int (-1) 531] }
noncomputable def o_236 (_ : Params) : Obj := { cls := Value.type "range_iterator", data := Data.fields #[Value.int (-1) 0, Value.int 0 0, Value.int (-1) 0] }
noncomputable def o_237 (_ : Params) : Obj := { cls := Value.type "tuple", data := Data.seq #[] }
noncomputable def o_238 (_ : Params) : Obj := { cls := Value.type "StopIteration", data := Data.fields #[Value.ref 237, Value.none, Value.none, Value.none, Value.bool false, Value.none] }
noncomputable def o_239 (_ : Params) : Obj := { cls := Value.type "tuple", data := Data.seq #[Value.int 0 550, Value.int (-4) 553] }
noncomputable def o_240 (_ : Params) : Obj := { cls := Value.type "tuple_iterator", data := Data.fields #[Value.none, Value.int 2 0] }
noncomputable def o_241 (_ : Params) : Obj := { cls := Value.type "list", data := Data.seq #[] 2 }
noncomputable def o_242 (_ : Params) : Obj := { cls := Value.type "tuple", data := Data.seq #[] }
noncomputable def o_243 (_ : Params) : Obj := { cls := Value.type "StopIteration", data := Data.fields #[Value.ref 242, Value.none, Value.none, Value.none, Value.bool false, Value.none] }
noncomputable def o_244 (_ : Params) : Obj := { cls := Value.type "tuple", data := Data.seq #[Value.int 3 548, Value.int 7 556] }
noncomputable def o_245 (_ : Params) : Obj := { cls := Value.type "tuple_iterator", data := Data.fields #[Value.none, Value.int 2 0] }
noncomputable def o_246 (_ : Params) : Obj := { cls := Value.type "list", data := Data.seq #[] 2 }
noncomputable def o_247 (_ : Params) : Obj := { cls := Value.type "tuple", data := Data.seq #[] }
noncomputable def o_248 (_ : Params) : Obj := { cls := Value.type "StopIteration", data := Data.fields #[Value.ref 247, Value.none, Value.none, Value.none, Value.bool false, Value.none] }
noncomputable def o_249 (_ : Params) : Obj := { cls := Value.type "range", data := Data.fields #[Value.int 0 550, Value.int 4 562, Value.int 1 563] }
noncomputable def o_250 (_ : Params) : Obj := { cls := Value.type "range_iterator", data := Data.fields #[Value.int 4 0, Value.int 0 0, Value.int 1 0] }
noncomputable def o_251 (_ : Params) : Obj := { cls := Value.type "tuple", data := Data.seq #[] }
noncomputable def o_252 (_ : Params) : Obj := { cls := Value.type "StopIteration", data := Data.fields #[Value.ref 251, Value.none, Value.none, Value.none, Value.bool false, Value.none] }
noncomputable def o_253 (_ : Params) : Obj := { cls := Value.type "tuple", data := Data.seq #[Value.int 0 587, Value.int (-3) 590] }
noncomputable def o_254 (_ : Params) : Obj := { cls := Value.type "tuple_iterator", data := Data.fields #[Value.none, Value.int 2 0] }
noncomputable def o_255 (_ : Params) : Obj := { cls := Value.type "list", data := Data.seq #[] 2 }
noncomputable def o_256 (_ : Params) : Obj := { cls := Value.type "tuple", data := Data.seq #[] }
noncomputable def o_257 (_ : Params) : Obj := { cls := Value.type "StopIteration", data := Data.fields #[Value.ref 256, Value.none, Value.none, Value.none, Value.bool false, Value.none] }
noncomputable def o_258 (_ : Params) : Obj := { cls := Value.type "tuple", data := Data.seq #[Value.int 4 585, Value.int 7 593] }
noncomputable def o_259 (_ : Params) : Obj := { cls := Value.type "tuple_iterator", data := Data.fields #[Value.none, Value.int 2 0] }
noncomputable def o_260 (_ : Params) : Obj := { cls := Value.type "list", data := Data.seq #[] 2 }
noncomputable def o_261 (_ : Params) : Obj := { cls := Value.type "tuple", data := Data.seq #[] }
noncomputable def o_262 (_ : Params) : Obj := { cls := Value.type "StopIteration", data := Data.fields #[Value.ref 261, Value.none, Value.none, Value.none, Value.bool false, Value.none] }
noncomputable def o_263 (_ : Params) : Obj := { cls := Value.type "range", data := Data.fields #[Value.int 4 585, Value.int (-1) 599, Value.int (-1) 601] }
noncomputable def o_264 (_ : Params) : Obj := { cls := Value.type "range_iterator", data := Data.fields #[Value.int (-1) 0, Value.int 0 0, Value.int (-1) 0] }
noncomputable def o_265 (_ : Params) : Obj := { cls := Value.type "tuple", data := Data.seq #[] }
noncomputable def o_266 (_ : Params) : Obj := { cls := Value.type "StopIteration", data := Data.fields #[Value.ref 265, Value.none, Value.none, Value.none, Value.bool false, Value.none] }
noncomputable def o_267 (_ : Params) : Obj := { cls := Value.type "tuple", data := Data.seq #[Value.int 0 630, Value.int (-2) 633] }
noncomputable def o_268 (_ : Params) : Obj := { cls := Value.type "tuple_iterator", data := Data.fields #[Value.none, Value.int 2 0] }
noncomputable def o_269 (_ : Params) : Obj := { cls := Value.type "list", data := Data.seq #[] 2 }
noncomputable def o_270 (_ : Params) : Obj := { cls := Value.type "tuple", data := Data.seq #[] }
noncomputable def o_271 (_ : Params) : Obj := { cls := Value.type "StopIteration", data := Data.fields #[Value.ref 270, Value.none, Value.none, Value.none, Value.bool false, Value.none] }
noncomputable def o_272 (_ : Params) : Obj := { cls := Value.type "tuple", data := Data.seq #[Value.int 5 628, Value.int 7 636] }
noncomputable def o_273 (_ : Params) : Obj := { cls := Value.type "tuple_iterator", data := Data.fields #[Value.none, Value.int 2 0] }
noncomputable def o_274 (_ : Params) : Obj := { cls := Value.type "list", data := Data.seq #[] 2 }
noncomputable def o_275 (_ : Params) : Obj := { cls := Value.type "tuple", data := Data.seq #[] }
noncomputable def o_276 (_ : Params) : Obj := { cls := Value.type "StopIteration", data := Data.fields #[Value.ref 275, Value.none, Value.none, Value.none, Value.bool false, Value.none] }
noncomputable def o_277 (_ : Params) : Obj := { cls := Value.type "range", data := Data.fields #[Value.int 0 630, Value.int 6 642, Value.int 1 643] }
noncomputable def o_278 (_ : Params) : Obj := { cls := Value.type "range_iterator", data := Data.fields #[Value.int 6 0, Value.int 0 0, Value.int 1 0] }
noncomputable def o_279 (_ : Params) : Obj := { cls := Value.type "tuple", data := Data.seq #[] }
noncomputable def o_280 (_ : Params) : Obj := { cls := Value.type "StopIteration", data := Data.fields #[Value.ref 279, Value.none, Value.none, Value.none, Value.bool false, Value.none] }
noncomputable def o_281 (_ : Params) : Obj := { cls := Value.type "tuple", data := Data.seq #[Value.int 0 677, Value.int (-1) 680] }
noncomputable def o_282 (_ : Params) : Obj := { cls := Value.type "tuple_iterator", data := Data.fields #[Value.none, Value.int 2 0] }
noncomputable def o_283 (_ : Params) : Obj := { cls := Value.type "list", data := Data.seq #[] 2 }
noncomputable def o_284 (_ : Params) : Obj := { cls := Value.type "tuple", data := Data.seq #[] }
noncomputable def o_285 (_ : Params) : Obj := { cls := Value.type "StopIteration", data := Data.fields #[Value.ref 284, Value.none, Value.none, Value.none, Value.bool false, Value.none] }
noncomputable def o_286 (_ : Params) : Obj := { cls := Value.type "tuple", data := Data.seq #[Value.int 6 675, Value.int 7 683] }
noncomputable def o_287 (_ : Params) : Obj := { cls := Value.type "tuple_iterator", data := Data.fields #[Value.none, Value.int 2 0] }
noncomputable def o_288 (_ : Params) : Obj := { cls := Value.type "list", data := Data.seq #[] 2 }
noncomputable def o_289 (_ : Params) : Obj := { cls := Value.type "tuple", data := Data.seq #[] }
noncomputable def o_290 (_ : Params) : Obj := { cls := Value.type "StopIteration", data := Data.fields #[Value.ref 289, Value.none, Value.none, Value.none, Value.bool false, Value.none] }
noncomputable def o_291 (_ : Params) : Obj := { cls := Value.type "range", data := Data.fields #[Value.int 6 675, Value.int (-1) 689, Value.int (-1) 691] }
noncomputable def o_292 (_ : Params) : Obj := { cls := Value.type "range_iterator", data := Data.fields #[Value.int (-1) 0, Value.int 0 0, Value.int (-1) 0] }
noncomputable def o_293 (_ : Params) : Obj := { cls := Value.type "tuple", data := Data.seq #[] }
noncomputable def o_294 (_ : Params) : Obj := { cls := Value.type "StopIteration", data := Data.fields #[Value.ref 293, Value.none, Value.none, Value.none, Value.bool false, Value.none] }
noncomputable def o_295 (_ : Params) : Obj := { cls := Value.type "tuple", data := Data.seq #[Value.int 0 730, Value.int 0 733] }
noncomputable def o_296 (_ : Params) : Obj := { cls := Value.type "tuple_iterator", data := Data.fields #[Value.none, Value.int 2 0] }
noncomputable def o_297 (_ : Params) : Obj := { cls := Value.type "list", data := Data.seq #[] 2 }
noncomputable def o_298 (_ : Params) : Obj := { cls := Value.type "tuple", data := Data.seq #[] }
noncomputable def o_299 (_ : Params) : Obj := { cls := Value.type "StopIteration", data := Data.fields #[Value.ref 298, Value.none, Value.none, Value.none, Value.bool false, Value.none] }
noncomputable def o_300 (_ : Params) : Obj := { cls := Value.type "tuple", data := Data.seq #[Value.int 7 728, Value.int 7 736] }
noncomputable def o_301 (_ : Params) : Obj := { cls := Value.type "tuple_iterator", data := Data.fields #[Value.none, Value.int 2 0] }
noncomputable def o_302 (_ : Params) : Obj := { cls := Value.type "list", data := Data.seq #[] 2 }
noncomputable def o_303 (_ : Params) : Obj := { cls := Value.type "tuple", data := Data.seq #[] }
noncomputable def o_304 (_ : Params) : Obj := { cls := Value.type "StopIteration", data := Data.fields #[Value.ref 303, Value.none, Value.none, Value.none, Value.bool false, Value.none] }
noncomputable def o_305 (_ : Params) : Obj := { cls := Value.type "range", data := Data.fields #[Value.int 0 730, Value.int 8 742, Value.int 1 743] }
noncomputable def o_306 (_ : Params) : Obj := { cls := Value.type "range_iterator", data := Data.fields #[Value.int 8 0, Value.int 0 0, Value.int 1 0] }
noncomputable def o_307 (_ : Params) : Obj := { cls := Value.type "tuple", data := Data.seq #[] }
noncomputable def o_308 (_ : Params) : Obj := { cls := Value.type "StopIteration", data := Data.fields #[Value.ref 307, Value.none, Value.none, Value.none, Value.bool false, Value.none] }
noncomputable def o_309 (_ : Params) : Obj := { cls := Value.type "tuple", data := Data.seq #[Value.int 0 787, Value.int 1 790] }
noncomputable def o_310 (_ : Params) : Obj := { cls := Value.type "tuple_iterator", data := Data.fields #[Value.none, Value.int 2 0] }
noncomputable def o_311 (_ : Params) : Obj := { cls := Value.type "list", data := Data.seq #[] 2 }
noncomputable def o_312 (_ : Params) : Obj := { cls := Value.type "tuple", data := Data.seq #[] }
noncomputable def o_313 (_ : Params) : Obj := { cls := Value.type "StopIteration", data := Data.fields #[Value.ref 312, Value.none, Value.none, Value.none, Value.bool false, Value.none] }
noncomputable def o_314 (_ : Params) : Obj := { cls := Value.type "tuple", data := Data.seq #[Value.int 8 785, Value.int 7 793] }
noncomputable def o_315 (_ : Params) : Obj := { cls := Value.type "tuple_iterator", data := Data.fields #[Value.none, Value.int 2 0] }
noncomputable def o_316 (_ : Params) : Obj := { cls := Value.type "list", data := Data.seq #[] 2 }
noncomputable def o_317 (_ : Params) : Obj := { cls := Value.type "tuple", data := Data.seq #[] }
noncomputable def o_318 (_ : Params) : Obj := { cls := Value.type "StopIteration", data := Data.fields #[Value.ref 317, Value.none, Value.none, Value.none, Value.bool false, Value.none] }
noncomputable def o_319 (_ : Params) : Obj := { cls := Value.type "range", data := Data.fields #[Value.int 7 793, Value.int 0 799, Value.int (-1) 801] }
noncomputable def o_320 (_ : Params) : Obj := { cls := Value.type "range_iterator", data := Data.fields #[Value.int 0 0, Value.int 0 0, Value.int (-1) 0] }
noncomputable def o_321 (_ : Params) : Obj := { cls := Value.type "tuple", data := Data.seq #[] }
noncomputable def o_322 (_ : Params) : Obj := { cls := Value.type "StopIteration", data := Data.fields #[Value.ref 321, Value.none, Value.none, Value.none, Value.bool false, Value.none] }
noncomputable def o_323 (_ : Params) : Obj := { cls := Value.type "tuple", data := Data.seq #[Value.int 0 840, Value.int 2 843] }
noncomputable def o_324 (_ : Params) : Obj := { cls := Value.type "tuple_iterator", data := Data.fields #[Value.none, Value.int 2 0] }
noncomputable def o_325 (_ : Params) : Obj := { cls := Value.type "list", data := Data.seq #[] 2 }
noncomputable def o_326 (_ : Params) : Obj := { cls := Value.type "tuple", data := Data.seq #[] }
noncomputable def o_327 (_ : Params) : Obj := { cls := Value.type "StopIteration", data := Data.fields #[Value.ref 326, Value.none, Value.none, Value.none, Value.bool false, Value.none] }
noncomputable def o_328 (_ : Params) : Obj := { cls := Value.type "tuple", data := Data.seq #[Value.int 9 838, Value.int 7 846] }
noncomputable def o_329 (_ : Params) : Obj := { cls := Value.type "tuple_iterator", data := Data.fields #[Value.none, Value.int 2 0] }
noncomputable def o_330 (_ : Params) : Obj := { cls := Value.type "list", data := Data.seq #[] 2 }
noncomputable def o_331 (_ : Params) : Obj := { cls := Value.type "tuple", data := Data.seq #[] }
noncomputable def o_332 (_ : Params) : Obj := { cls := Value.type "StopIteration", data := Data.fields #[Value.ref 331, Value.none, Value.none, Value.none, Value.bool false, Value.none] }
noncomputable def o_333 (_ : Params) : Obj := { cls := Value.type "range", data := Data.fields #[Value.int 2 843, Value.int 8 852, Value.int 1 853] }
noncomputable def o_334 (_ : Params) : Obj := { cls := Value.type "range_iterator", data := Data.fields #[Value.int 8 0, Value.int 0 0, Value.int 1 0] }
noncomputable def o_335 (_ : Params) : Obj := { cls := Value.type "tuple", data := Data.seq #[] }
noncomputable def o_336 (_ : Params) : Obj := { cls := Value.type "StopIteration", data := Data.fields #[Value.ref 335, Value.none, Value.none, Value.none, Value.bool false, Value.none] }
noncomputable def o_337 (_ : Params) : Obj := { cls := Value.type "tuple", data := Data.seq #[Value.int 0 887, Value.int 3 890] }
noncomputable def o_338 (_ : Params) : Obj := { cls := Value.type "tuple_iterator", data := Data.fields #[Value.none, Value.int 2 0] }
noncomputable def o_339 (_ : Params) : Obj := { cls := Value.type "list", data := Data.seq #[] 2 }
noncomputable def o_340 (_ : Params) : Obj := { cls := Value.type "tuple", data := Data.seq #[] }
noncomputable def o_341 (_ : Params) : Obj := { cls := Value.type "StopIteration", data := Data.fields #[Value.ref 340, Value.none, Value.none, Value.none, Value.bool false, Value.none] }
noncomputable def o_342 (_ : Params) : Obj := { cls := Value.type "tuple", data := Data.seq #[Value.int 10 885, Value.int 7 893] }
noncomputable def o_343 (_ : Params) : Obj := { cls := Value.type "tuple_iterator", data := Data.fields #[Value.none, Value.int 2 0] }
noncomputable def o_344 (_ : Params) : Obj := { cls := Value.type "list", data := Data.seq #[] 2 }
noncomputable def o_345 (_ : Params) : Obj := { cls := Value.type "tuple", data := Data.seq #[] }
noncomputable def o_346 (_ : Params) : Obj := { cls := Value.type "StopIteration", data := Data.fields #[Value.ref 345, Value.none, Value.none, Value.none, Value.bool false, Value.none] }
noncomputable def o_347 (_ : Params) : Obj := { cls := Value.type "range", data := Data.fields #[Value.int 7 893, Value.int 2 899, Value.int (-1) 901] }
noncomputable def o_348 (_ : Params) : Obj := { cls := Value.type "range_iterator", data := Data.fields #[Value.int 2 0, Value.int 0 0, Value.int (-1) 0] }
noncomputable def o_349 (_ : Params) : Obj := { cls := Value.type "tuple", data := Data.seq #[] }
noncomputable def o_350 (_ : Params) : Obj := { cls := Value.type "StopIteration", data := Data.fields #[Value.ref 349, Value.none, Value.none, Value.none, Value.bool false, Value.none] }
noncomputable def o_351 (_ : Params) : Obj := { cls := Value.type "tuple", data := Data.seq #[Value.int 0 930, Value.int 4 933] }
noncomputable def o_352 (_ : Params) : Obj := { cls := Value.type "tuple_iterator", data := Data.fields #[Value.none, Value.int 2 0] }
noncomputable def o_353 (_ : Params) : Obj := { cls := Value.type "list", data := Data.seq #[] 2 }
noncomputable def o_354 (_ : Params) : Obj := { cls := Value.type "tuple", data := Data.seq #[] }
noncomputable def o_355 (_ : Params) : Obj := { cls := Value.type "StopIteration", data := Data.fields #[Value.ref 354, Value.none, Value.none, Value.none, Value.bool false, Value.none] }
noncomputable def o_356 (_ : Params) : Obj := { cls := Value.type "tuple", data := Data.seq #[Value.int 11 928, Value.int 7 936] }
noncomputable def o_357 (_ : Params) : Obj := { cls := Value.type "tuple_iterator", data := Data.fields #[Value.none, Value.int 2 0] }
noncomputable def o_358 (_ : Params) : Obj := { cls := Value.type "list", data := Data.seq #[] 2 }
noncomputable def o_359 (_ : Params) : Obj := { cls := Value.type "tuple", data := Data.seq #[] }
noncomputable def o_360 (_ : Params) : Obj := { cls := Value.type "StopIteration", data := Data.fields #[Value.ref 359, Value.none, Value.none, Value.none, Value.bool false, Value.none] }
noncomputable def o_361 (_ : Params) : Obj := { cls := Value.type "range", data := Data.fields #[Value.int 4 933, Value.int 8 942, Value.int 1 943] }
noncomputable def o_362 (_ : Params) : Obj := { cls := Value.type "range_iterator", data := Data.fields #[Value.int 8 0, Value.int 0 0, Value.int 1 0] }
noncomputable def o_363 (_ : Params) : Obj := { cls := Value.type "tuple", data := Data.seq #[] }
noncomputable def o_364 (_ : Params) : Obj := { cls := Value.type "StopIteration", data := Data.fields #[Value.ref 363, Value.none, Value.none, Value.none, Value.bool false, Value.none] }
noncomputable def o_365 (_ : Params) : Obj := { cls := Value.type "tuple", data := Data.seq #[Value.int 0 967, Value.int 5 970] }
noncomputable def o_366 (_ : Params) : Obj := { cls := Value.type "tuple_iterator", data := Data.fields #[Value.none, Value.int 2 0] }
noncomputable def o_367 (_ : Params) : Obj := { cls := Value.type "list", data := Data.seq #[] 2 }
noncomputable def o_368 (_ : Params) : Obj := { cls := Value.type "tuple", data := Data.seq #[] }
noncomputable def o_369 (_ : Params) : Obj := { cls := Value.type "StopIteration", data := Data.fields #[Value.ref 368, Value.none, Value.none, Value.none, Value.bool false, Value.none] }
noncomputable def o_370 (_ : Params) : Obj := { cls := Value.type "tuple", data := Data.seq #[Value.int 12 965, Value.int 7 973] }
noncomputable def o_371 (_ : Params) : Obj := { cls := Value.type "tuple_iterator", data := Data.fields #[Value.none, Value.int 2 0] }
noncomputable def o_372 (_ : Params) : Obj := { cls := Value.type "list", data := Data.seq #[] 2 }
noncomputable def o_373 (_ : Params) : Obj := { cls := Value.type "tuple", data := Data.seq #[] }
noncomputable def o_374 (_ : Params) : Obj := { cls := Value.type "StopIteration", data := Data.fields #[Value.ref 373, Value.none, Value.none, Value.none, Value.bool false, Value.none] }
noncomputable def o_375 (_ : Params) : Obj := { cls := Value.type "range", data := Data.fields #[Value.int 7 973, Value.int 4 979, Value.int (-1) 981] }
noncomputable def o_376 (_ : Params) : Obj := { cls := Value.type "range_iterator", data := Data.fields #[Value.int 4 0, Value.int 0 0, Value.int (-1) 0] }
noncomputable def o_377 (_ : Params) : Obj := { cls := Value.type "tuple", data := Data.seq #[] }
noncomputable def o_378 (_ : Params) : Obj := { cls := Value.type "StopIteration", data := Data.fields #[Value.ref 377, Value.none, Value.none, Value.none, Value.bool false, Value.none] }
noncomputable def o_379 (_ : Params) : Obj := { cls := Value.type "tuple", data := Data.seq #[Value.int 0 1000, Value.int 6 1003] }
noncomputable def o_380 (_ : Params) : Obj := { cls := Value.type "tuple_iterator", data := Data.fields #[Value.none, Value.int 2 0] }
noncomputable def o_381 (_ : Params) : Obj := { cls := Value.type "list", data := Data.seq #[] 2 }
noncomputable def o_382 (_ : Params) : Obj := { cls := Value.type "tuple", data := Data.seq #[] }
noncomputable def o_383 (_ : Params) : Obj := { cls := Value.type "StopIteration", data := Data.fields #[Value.ref 382, Value.none, Value.none, Value.none, Value.bool false, Value.none] }
noncomputable def o_384 (_ : Params) : Obj := { cls := Value.type "tuple", data := Data.seq #[Value.int 13 998, Value.int 7 1006] }
noncomputable def o_385 (_ : Params) : Obj := { cls := Value.type "tuple_iterator", data := Data.fields #[Value.none, Value.int 2 0] }
noncomputable def o_386 (_ : Params) : Obj := { cls := Value.type "list", data := Data.seq #[] 2 }
noncomputable def o_387 (_ : Params) : Obj := { cls := Value.type "tuple", data := Data.seq #[] }
noncomputable def o_388 (_ : Params) : Obj := { cls := Value.type "StopIteration", data := Data.fields #[Value.ref 387, Value.none, Value.none, Value.none, Value.bool false, Value.none] }
noncomputable def o_389 (_ : Params) : Obj := { cls := Value.type "range", data := Data.fields #[Value.int 6 1003, Value.int 8 1012, Value.int 1 1013] }
noncomputable def o_390 (_ : Params) : Obj := { cls := Value.type "range_iterator", data := Data.fields #[Value.int 8 0, Value.int 0 0, Value.int 1 0] }
noncomputable def o_391 (_ : Params) : Obj := { cls := Value.type "tuple", data := Data.seq #[] }
noncomputable def o_392 (_ : Params) : Obj := { cls := Value.type "StopIteration", data := Data.fields #[Value.ref 391, Value.none, Value.none, Value.none, Value.bool false, Value.none] }
noncomputable def o_393 (_ : Params) : Obj := { cls := Value.type "tuple", data := Data.seq #[Value.int 0 1027, Value.int 7 1030] }
noncomputable def o_394 (_ : Params) : Obj := { cls := Value.type "tuple_iterator", data := Data.fields #[Value.none, Value.int 2 0] }
noncomputable def o_395 (_ : Params) : Obj := { cls := Value.type "list", data := Data.seq #[] 2 }
noncomputable def o_396 (_ : Params) : Obj := { cls := Value.type "tuple", data := Data.seq #[] }
noncomputable def o_397 (_ : Params) : Obj := { cls := Value.type "StopIteration", data := Data.fields #[Value.ref 396, Value.none, Value.none, Value.none, Value.bool false, Value.none] }
noncomputable def o_398 (_ : Params) : Obj := { cls := Value.type "tuple", data := Data.seq #[Value.int 14 1025, Value.int 7 1033] }
noncomputable def o_399 (_ : Params) : Obj := { cls := Value.type "tuple_iterator", data := Data.fields #[Value.none, Value.int 2 0] }
noncomputable def o_400 (_ : Params) : Obj := { cls := Value.type "list", data := Data.seq #[] 2 }
noncomputable def o_401 (_ : Params) : Obj := { cls := Value.type "tuple", data := Data.seq #[] }
noncomputable def o_402 (_ : Params) : Obj := { cls := Value.type "StopIteration", data := Data.fields #[Value.ref 401, Value.none, Value.none, Value.none, Value.bool false, Value.none] }
noncomputable def o_403 (_ : Params) : Obj := { cls := Value.type "range", data := Data.fields #[Value.int 7 1033, Value.int 6 1039, Value.int (-1) 1041] }
noncomputable def o_404 (_ : Params) : Obj := { cls := Value.type "range_iterator", data := Data.fields #[Value.int 6 0, Value.int 0 0, Value.int (-1) 0] }
noncomputable def o_405 (_ : Params) : Obj := { cls := Value.type "tuple", data := Data.seq #[] }
noncomputable def o_406 (_ : Params) : Obj := { cls := Value.type "StopIteration", data := Data.fields #[Value.ref 405, Value.none, Value.none, Value.none, Value.bool false, Value.none] }
noncomputable def o_407 (_ : Params) : Obj := { cls := Value.type "tuple", data := Data.seq #[] }
noncomputable def o_408 (_ : Params) : Obj := { cls := Value.type "StopIteration", data := Data.fields #[Value.ref 407, Value.none, Value.none, Value.none, Value.bool false, Value.none] }
noncomputable def o_409 (_ : Params) : Obj := { cls := Value.type "list", data := Data.seq #[Value.int 0 487, Value.int 1 509, Value.int 8 514, Value.int 16 537, Value.int 9 542, Value.int 2 547, Value.int 3 569, Value.int 10 574, Value.int 17 579, Value.int 24 584, Value.int 32 607, Value.int 25 612, Value.int 18 617, Value.int 11 622, Value.int 4 627, Value.int 5 649, Value.int 12 654, Value.int 19 659, Value.int 26 664, Value.int 33 669, Value.int 40 674, Value.int 48 697, Value.int 41 702, Value.int 34 707, Value.int 27 712, Value.int 20 717, Value.int 13 722, Value.int 6 727, Value.int 7 749, Value.int 14 754, Value.int 21 759, Value.int 28 764, Value.int 35 769, Value.int 42 774, Value.int 49 779, Value.int 56 784, Value.int 57 807, Value.int 50 812, Value.int 43 817, Value.int 36 822, Value.int 29 827, Value.int 22 832, Value.int 15 837, Value.int 23 859, Value.int 30 864, Value.int 37 869, Value.int 44 874, Value.int 51 879, Value.int 58 884, Value.int 59 907, Value.int 52 912, Value.int 45 917, Value.int 38 922, Value.int 31 927, Value.int 39 949, Value.int 46 954, Value.int 53 959, Value.int 60 964, Value.int 61 987, Value.int 54 992, Value.int 47 997, Value.int 55 1019, Value.int 62 1024, Value.int 63 1047] 1 }
noncomputable def o_410 (_ : Params) : Obj := { cls := Value.type "tuple", data := Data.seq #[Value.int 0 487, Value.int 1 509, Value.int 8 514, Value.int 16 537, Value.int 9 542, Value.int 2 547, Value.int 3 569, Value.int 10 574, Value.int 17 579, Value.int 24 584, Value.int 32 607, Value.int 25 612, Value.int 18 617, Value.int 11 622, Value.int 4 627, Value.int 5 649, Value.int 12 654, Value.int 19 659, Value.int 26 664, Value.int 33 669, Value.int 40 674, Value.int 48 697, Value.int 41 702, Value.int 34 707, Value.int 27 712, Value.int 20 717, Value.int 13 722, Value.int 6 727, Value.int 7 749, Value.int 14 754, Value.int 21 759, Value.int 28 764, Value.int 35 769, Value.int 42 774, Value.int 49 779, Value.int 56 784, Value.int 57 807, Value.int 50 812, Value.int 43 817, Value.int 36 822, Value.int 29 827, Value.int 22 832, Value.int 15 837, Value.int 23 859, Value.int 30 864, Value.int 37 869, Value.int 44 874, Value.int 51 879, Value.int 58 884, Value.int 59 907, Value.int 52 912, Value.int 45 917, Value.int 38 922, Value.int 31 927, Value.int 39 949, Value.int 46 954, Value.int 53 959, Value.int 60 964, Value.int 61 987, Value.int 54 992, Value.int 47 997, Value.int 55 1019, Value.int 62 1024, Value.int 63 1047] }
noncomputable def o_411 (_ : Params) : Obj := { cls := Value.type "tuple", data := Data.seq #[] }
noncomputable def o_412 (_ : Params) : Obj := { cls := Value.none, data := Data.fields #[] }
noncomputable def o_413 (_ : Params) : Obj := { cls := Value.type "tuple", data := Data.seq #[Value.str (Str.ofString "n") 1052] }
noncomputable def o_414 (_ : Params) : Obj := { cls := Value.type "tuple", data := Data.seq #[] }
noncomputable def o_415 (_ : Params) : Obj := { cls := Value.none, data := Data.func { name := Str.ofString "order", qualname := Str.ofString "order", params := argS (topS 13), body := FuncBody.stmts (inS (topS 13)), scope := scoS (topS 13), globals := 0, closure := [], defaults := Value.none, kwdefaults := Value.none } }
noncomputable def o_416 (_ : Params) : Obj := { cls := Value.type "code", data := Data.fields #[Value.str (Str.ofString "order") 1049, Value.str (Str.ofString "order") 1050, Value.str (Str.ofString "/claim/cut.py") 1051, Value.int 82 0, Value.int 1 0, Value.int 0 0, Value.int 0 0, Value.int 3 0, Value.ref 411, Value.bool true, Value.int 181 0, Value.ref 412, Value.none, Value.ref 413, Value.ref 414, Value.ref 415, Value.int 1053 0, Value.int 82 0, Value.str (Str.ofString "/claim/cut.py") 1054] }
noncomputable def o_417 (_ : Params) : Obj := { cls := Value.type "function", data := Data.func { name := Str.ofString "order", qualname := Str.ofString "order", params := argS (topS 13), body := FuncBody.stmts (inS (topS 13)), scope := scoS (topS 13), globals := 3, closure := [], defaults := Value.none, kwdefaults := Value.none, pyModule := Value.str (Str.ofString "pixelpress.zigzag") 441, code := Value.ref 416 } }
noncomputable def o_418 (_ : Params) : Obj := { cls := Value.type "tuple", data := Data.seq #[] }
noncomputable def o_419 (_ : Params) : Obj := { cls := Value.none, data := Data.fields #[] }
noncomputable def o_420 (_ : Params) : Obj := { cls := Value.none, data := Data.func { name := Str.ofString "to_row", qualname := Str.ofString "to_row", params := argS (topS 14), body := FuncBody.stmts (inS (topS 14)), scope := scoS (topS 14), globals := 0, closure := [], defaults := Value.none, kwdefaults := Value.none } }
noncomputable def o_421 (_ : Params) : Obj := { cls := Value.type "code", data := Data.fields #[Value.str (Str.ofString "to_row") 1056, Value.str (Str.ofString "to_row") 1057, Value.str (Str.ofString "/claim/cut.py") 1058, Value.int 84 0, Value.int 2 0, Value.int 0 0, Value.int 0 0, Value.int 3 0, Value.ref 418, Value.bool true, Value.int 181 0, Value.ref 419, Value.none, Value.none, Value.none, Value.ref 420, Value.int 1059 0, Value.int 84 0, Value.str (Str.ofString "/claim/cut.py") 1060] }
noncomputable def o_422 (_ : Params) : Obj := { cls := Value.type "function", data := Data.func { name := Str.ofString "to_row", qualname := Str.ofString "to_row", params := argS (topS 14), body := FuncBody.stmts (inS (topS 14)), scope := scoS (topS 14), globals := 3, closure := [], defaults := Value.none, kwdefaults := Value.none, pyModule := Value.str (Str.ofString "pixelpress.zigzag") 441, code := Value.ref 421 } }
noncomputable def o_423 (_ : Params) : Obj := { cls := Value.type "tuple", data := Data.seq #[] }
noncomputable def o_424 (_ : Params) : Obj := { cls := Value.none, data := Data.fields #[] }
noncomputable def o_425 (_ : Params) : Obj := { cls := Value.type "tuple", data := Data.seq #[Value.str (Str.ofString "row") 1065, Value.str (Str.ofString "n") 1066, Value.str (Str.ofString "found") 1067, Value.str (Str.ofString "rank") 1068, Value.str (Str.ofString "place") 1069] }
noncomputable def o_426 (_ : Params) : Obj := { cls := Value.type "tuple", data := Data.seq #[] }
noncomputable def o_427 (_ : Params) : Obj := { cls := Value.none, data := Data.func { name := Str.ofString "to_block", qualname := Str.ofString "to_block", params := argS (topS 15), body := FuncBody.stmts (inS (topS 15)), scope := scoS (topS 15), globals := 0, closure := [], defaults := Value.none, kwdefaults := Value.none } }
noncomputable def o_428 (_ : Params) : Obj := { cls := Value.type "code", data := Data.fields #[Value.str (Str.ofString "to_block") 1062, Value.str (Str.ofString "to_block") 1063, Value.str (Str.ofString "/claim/cut.py") 1064, Value.int 86 0, Value.int 2 0, Value.int 0 0, Value.int 0 0, Value.int 3 0, Value.ref 423, Value.bool true, Value.int 181 0, Value.ref 424, Value.none, Value.ref 425, Value.ref 426, Value.ref 427, Value.int 1070 0, Value.int 86 0, Value.str (Str.ofString "/claim/cut.py") 1071] }
noncomputable def o_429 (_ : Params) : Obj := { cls := Value.type "function", data := Data.func { name := Str.ofString "to_block", qualname := Str.ofString "to_block", params := argS (topS 15), body := FuncBody.stmts (inS (topS 15)), scope := scoS (topS 15), globals := 3, closure := [], defaults := Value.none, kwdefaults := Value.none, pyModule := Value.str (Str.ofString "pixelpress.zigzag") 441, code := Value.ref 428 } }
noncomputable def o_430 (_ : Params) : Obj := { cls := Value.type "tuple", data := Data.seq #[Value.str (Str.ofString "stay") 1075, Value.str (Str.ofString "left") 1076, Value.str (Str.ofString "back") 1077, Value.str (Str.ofString "right") 1078, Value.str (Str.ofString "mirror") 1079, Value.str (Str.ofString "flip") 1080, Value.str (Str.ofString "swap") 1081, Value.str (Str.ofString "cross") 1082] }
noncomputable def o_431 (_ : Params) : Obj := { cls := Value.type "tuple", data := Data.seq #[Value.str (Str.ofString "left") 1084, Value.str (Str.ofString "right") 1085, Value.str (Str.ofString "swap") 1086, Value.str (Str.ofString "cross") 1087] }
noncomputable def o_432 (_ : Params) : Obj := { cls := Value.type "tuple", data := Data.seq #[Value.str (Str.ofString "back") 1089, Value.str (Str.ofString "right") 1090, Value.str (Str.ofString "mirror") 1091, Value.str (Str.ofString "cross") 1092] }
noncomputable def o_433 (_ : Params) : Obj := { cls := Value.type "tuple", data := Data.seq #[Value.str (Str.ofString "left") 1094, Value.str (Str.ofString "back") 1095, Value.str (Str.ofString "flip") 1096, Value.str (Str.ofString "cross") 1097] }
noncomputable def o_434 (_ : Params) : Obj := { cls := Value.type "tuple", data := Data.seq #[] }
noncomputable def o_435 (_ : Params) : Obj := { cls := Value.none, data := Data.fields #[] }
noncomputable def o_436 (_ : Params) : Obj := { cls := Value.type "tuple", data := Data.seq #[Value.str (Str.ofString "word") 1102] }
noncomputable def o_437 (_ : Params) : Obj := { cls := Value.type "tuple", data := Data.seq #[] }
noncomputable def o_438 (_ : Params) : Obj := { cls := Value.none, data := Data.func { name := Str.ofString "check_word", qualname := Str.ofString "check_word", params := argS (topS 21), body := FuncBody.stmts (inS (topS 21)), scope := scoS (topS 21), globals := 0, closure := [], defaults := Value.none, kwdefaults := Value.none } }
noncomputable def o_439 (_ : Params) : Obj := { cls := Value.type "code", data := Data.fields #[Value.str (Str.ofString "check_word") 1099, Value.str (Str.ofString "check_word") 1100, Value.str (Str.ofString "/claim/cut.py") 1101, Value.int 98 0, Value.int 1 0, Value.int 0 0, Value.int 0 0, Value.int 3 0, Value.ref 434, Value.bool true, Value.int 181 0, Value.ref 435, Value.none, Value.ref 436, Value.ref 437, Value.ref 438, Value.int 1103 0, Value.int 98 0, Value.str (Str.ofString "/claim/cut.py") 1104] }
noncomputable def o_440 (_ : Params) : Obj := { cls := Value.type "function", data := Data.func { name := Str.ofString "check_word", qualname := Str.ofString "check_word", params := argS (topS 21), body := FuncBody.stmts (inS (topS 21)), scope := scoS (topS 21), globals := 3, closure := [], defaults := Value.none, kwdefaults := Value.none, pyModule := Value.str (Str.ofString "pixelpress.turning") 1073, code := Value.ref 439 } }
noncomputable def o_441 (_ : Params) : Obj := { cls := Value.type "tuple", data := Data.seq #[] }
noncomputable def o_442 (_ : Params) : Obj := { cls := Value.none, data := Data.fields #[] }
noncomputable def o_443 (_ : Params) : Obj := { cls := Value.type "tuple", data := Data.seq #[Value.str (Str.ofString "row") 1109, Value.str (Str.ofString "word") 1110, Value.str (Str.ofString "n") 1111, Value.str (Str.ofString "block") 1112, Value.str (Str.ofString "found") 1113, Value.str (Str.ofString "down") 1114, Value.str (Str.ofString "across") 1115, Value.str (Str.ofString "value") 1116] }
noncomputable def o_444 (_ : Params) : Obj := { cls := Value.type "tuple", data := Data.seq #[] }
noncomputable def o_445 (_ : Params) : Obj := { cls := Value.none, data := Data.func { name := Str.ofString "turned_row", qualname := Str.ofString "turned_row", params := argS (topS 22), body := FuncBody.stmts (inS (topS 22)), scope := scoS (topS 22), globals := 0, closure := [], defaults := Value.none, kwdefaults := Value.none } }
noncomputable def o_446 (_ : Params) : Obj := { cls := Value.type "code", data := Data.fields #[Value.str (Str.ofString "turned_row") 1106, Value.str (Str.ofString "turned_row") 1107, Value.str (Str.ofString "/claim/cut.py") 1108, Value.int 101 0, Value.int 3 0, Value.int 0 0, Value.int 0 0, Value.int 3 0, Value.ref 441, Value.bool true, Value.int 181 0, Value.ref 442, Value.none, Value.ref 443, Value.ref 444, Value.ref 445, Value.int 1117 0, Value.int 101 0, Value.str (Str.ofString "/claim/cut.py") 1118] }
noncomputable def o_447 (_ : Params) : Obj := { cls := Value.type "function", data := Data.func { name := Str.ofString "turned_row", qualname := Str.ofString "turned_row", params := argS (topS 22), body := FuncBody.stmts (inS (topS 22)), scope := scoS (topS 22), globals := 3, closure := [], defaults := Value.none, kwdefaults := Value.none, pyModule := Value.str (Str.ofString "pixelpress.turning") 1073, code := Value.ref 446 } }
noncomputable def o_448 (_ : Params) : Obj := { cls := Value.type "tuple", data := Data.seq #[] }
noncomputable def o_449 (_ : Params) : Obj := { cls := Value.none, data := Data.fields #[] }
noncomputable def o_450 (_ : Params) : Obj := { cls := Value.type "tuple", data := Data.seq #[Value.str (Str.ofString "x") 1123, Value.str (Str.ofString "y") 1124, Value.str (Str.ofString "across") 1125, Value.str (Str.ofString "down") 1126, Value.str (Str.ofString "word") 1127] }
noncomputable def o_451 (_ : Params) : Obj := { cls := Value.type "tuple", data := Data.seq #[] }
noncomputable def o_452 (_ : Params) : Obj := { cls := Value.none, data := Data.func { name := Str.ofString "turned_place", qualname := Str.ofString "turned_place", params := argS (topS 23), body := FuncBody.stmts (inS (topS 23)), scope := scoS (topS 23), globals := 0, closure := [], defaults := Value.none, kwdefaults := Value.none } }
noncomputable def o_453 (_ : Params) : Obj := { cls := Value.type "code", data := Data.fields #[Value.str (Str.ofString "turned_place") 1120, Value.str (Str.ofString "turned_place") 1121, Value.str (Str.ofString "/claim/cut.py") 1122, Value.int 112 0, Value.int 5 0, Value.int 0 0, Value.int 0 0, Value.int 3 0, Value.ref 448, Value.bool true, Value.int 181 0, Value.ref 449, Value.none, Value.ref 450, Value.ref 451, Value.ref 452, Value.int 1128 0, Value.int 112 0, Value.str (Str.ofString "/claim/cut.py") 1129] }
noncomputable def o_454 (_ : Params) : Obj := { cls := Value.type "function", data := Data.func { name := Str.ofString "turned_place", qualname := Str.ofString "turned_place", params := argS (topS 23), body := FuncBody.stmts (inS (topS 23)), scope := scoS (topS 23), globals := 3, closure := [], defaults := Value.none, kwdefaults := Value.none, pyModule := Value.str (Str.ofString "pixelpress.turning") 1073, code := Value.ref 453 } }
noncomputable def o_455 (_ : Params) : Obj := { cls := Value.type "tuple", data := Data.seq #[] }
noncomputable def o_456 (_ : Params) : Obj := { cls := Value.none, data := Data.fields #[] }
noncomputable def o_457 (_ : Params) : Obj := { cls := Value.type "tuple", data := Data.seq #[Value.str (Str.ofString "frame") 1134] }
noncomputable def o_458 (_ : Params) : Obj := { cls := Value.type "tuple", data := Data.seq #[] }
noncomputable def o_459 (_ : Params) : Obj := { cls := Value.none, data := Data.func { name := Str.ofString "unit_size", qualname := Str.ofString "unit_size", params := argS (topS 24), body := FuncBody.stmts (inS (topS 24)), scope := scoS (topS 24), globals := 0, closure := [], defaults := Value.none, kwdefaults := Value.none } }
noncomputable def o_460 (_ : Params) : Obj := { cls := Value.type "code", data := Data.fields #[Value.str (Str.ofString "unit_size") 1131, Value.str (Str.ofString "unit_size") 1132, Value.str (Str.ofString "/claim/cut.py") 1133, Value.int 121 0, Value.int 1 0, Value.int 0 0, Value.int 0 0, Value.int 3 0, Value.ref 455, Value.bool true, Value.int 181 0, Value.ref 456, Value.none, Value.ref 457, Value.ref 458, Value.ref 459, Value.int 1135 0, Value.int 121 0, Value.str (Str.ofString "/claim/cut.py") 1136] }
noncomputable def o_461 (_ : Params) : Obj := { cls := Value.type "function", data := Data.func { name := Str.ofString "unit_size", qualname := Str.ofString "unit_size", params := argS (topS 24), body := FuncBody.stmts (inS (topS 24)), scope := scoS (topS 24), globals := 3, closure := [], defaults := Value.none, kwdefaults := Value.none, pyModule := Value.str (Str.ofString "pixelpress.turning") 1073, code := Value.ref 460 } }
noncomputable def o_462 (_ : Params) : Obj := { cls := Value.type "tuple", data := Data.seq #[] }
noncomputable def o_463 (_ : Params) : Obj := { cls := Value.none, data := Data.fields #[] }
noncomputable def o_464 (_ : Params) : Obj := { cls := Value.type "tuple", data := Data.seq #[Value.str (Str.ofString "frame") 1141, Value.str (Str.ofString "word") 1142, Value.str (Str.ofString "wide") 1143, Value.str (Str.ofString "high") 1144, Value.str (Str.ofString "swaps") 1145, Value.str (Str.ofString "turns_across") 1146, Value.str (Str.ofString "turns_down") 1147] }
noncomputable def o_465 (_ : Params) : Obj := { cls := Value.type "tuple", data := Data.seq #[] }
noncomputable def o_466 (_ : Params) : Obj := { cls := Value.none, data := Data.func { name := Str.ofString "is_whole", qualname := Str.ofString "is_whole", params := argS (topS 25), body := FuncBody.stmts (inS (topS 25)), scope := scoS (topS 25), globals := 0, closure := [], defaults := Value.none, kwdefaults := Value.none } }
noncomputable def o_467 (_ : Params) : Obj := { cls := Value.type "code", data := Data.fields #[Value.str (Str.ofString "is_whole") 1138, Value.str (Str.ofString "is_whole") 1139, Value.str (Str.ofString "/claim/cut.py") 1140, Value.int 123 0, Value.int 2 0, Value.int 0 0, Value.int 0 0, Value.int 3 0, Value.ref 462, Value.bool true, Value.int 181 0, Value.ref 463, Value.none, Value.ref 464, Value.ref 465, Value.ref 466, Value.int 1148 0, Value.int 123 0, Value.str (Str.ofString "/claim/cut.py") 1149] }
noncomputable def o_468 (_ : Params) : Obj := { cls := Value.type "function", data := Data.func { name := Str.ofString "is_whole", qualname := Str.ofString "is_whole", params := argS (topS 25), body := FuncBody.stmts (inS (topS 25)), scope := scoS (topS 25), globals := 3, closure := [], defaults := Value.none, kwdefaults := Value.none, pyModule := Value.str (Str.ofString "pixelpress.turning") 1073, code := Value.ref 467 } }
noncomputable def o_469 (_ : Params) : Obj := { cls := Value.type "tuple", data := Data.seq #[] }
noncomputable def o_470 (_ : Params) : Obj := { cls := Value.none, data := Data.fields #[] }
noncomputable def o_471 (_ : Params) : Obj := { cls := Value.type "tuple", data := Data.seq #[Value.str (Str.ofString "frame") 1154, Value.str (Str.ofString "word") 1155, Value.str (Str.ofString "swaps") 1156, Value.str (Str.ofString "components") 1157, Value.str (Str.ofString "component") 1158, Value.str (Str.ofString "across") 1159, Value.str (Str.ofString "down") 1160, Value.str (Str.ofString "width") 1161, Value.str (Str.ofString "height") 1162] }
noncomputable def o_472 (_ : Params) : Obj := { cls := Value.type "tuple", data := Data.seq #[] }
noncomputable def o_473 (_ : Params) : Obj := { cls := Value.none, data := Data.func { name := Str.ofString "turned_frame", qualname := Str.ofString "turned_frame", params := argS (topS 26), body := FuncBody.stmts (inS (topS 26)), scope := scoS (topS 26), globals := 0, closure := [], defaults := Value.none, kwdefaults := Value.none } }
noncomputable def o_474 (_ : Params) : Obj := { cls := Value.type "code", data := Data.fields #[Value.str (Str.ofString "turned_frame") 1151, Value.str (Str.ofString "turned_frame") 1152, Value.str (Str.ofString "/claim/cut.py") 1153, Value.int 129 0, Value.int 2 0, Value.int 0 0, Value.int 0 0, Value.int 3 0, Value.ref 469, Value.bool true, Value.int 181 0, Value.ref 470, Value.none, Value.ref 471, Value.ref 472, Value.ref 473, Value.int 1163 0, Value.int 129 0, Value.str (Str.ofString "/claim/cut.py") 1164] }
noncomputable def o_475 (_ : Params) : Obj := { cls := Value.type "function", data := Data.func { name := Str.ofString "turned_frame", qualname := Str.ofString "turned_frame", params := argS (topS 26), body := FuncBody.stmts (inS (topS 26)), scope := scoS (topS 26), globals := 3, closure := [], defaults := Value.none, kwdefaults := Value.none, pyModule := Value.str (Str.ofString "pixelpress.turning") 1073, code := Value.ref 474 } }
noncomputable def o_476 (_ : Params) : Obj := { cls := Value.type "tuple", data := Data.seq #[] }
noncomputable def o_477 (_ : Params) : Obj := { cls := Value.none, data := Data.fields #[] }
noncomputable def o_478 (_ : Params) : Obj := { cls := Value.type "tuple", data := Data.seq #[Value.str (Str.ofString "grid") 1169, Value.str (Str.ofString "frame") 1170, Value.str (Str.ofString "place") 1171, Value.str (Str.ofString "word") 1172, Value.str (Str.ofString "found") 1173, Value.str (Str.ofString "across") 1174, Value.str (Str.ofString "down") 1175, Value.str (Str.ofString "y") 1176, Value.str (Str.ofString "x") 1177, Value.str (Str.ofString "goal") 1178] }
noncomputable def o_479 (_ : Params) : Obj := { cls := Value.type "tuple", data := Data.seq #[] }
noncomputable def o_480 (_ : Params) : Obj := { cls := Value.none, data := Data.func { name := Str.ofString "turned_component", qualname := Str.ofString "turned_component", params := argS (topS 27), body := FuncBody.stmts (inS (topS 27)), scope := scoS (topS 27), globals := 0, closure := [], defaults := Value.none, kwdefaults := Value.none } }
noncomputable def o_481 (_ : Params) : Obj := { cls := Value.type "code", data := Data.fields #[Value.str (Str.ofString "turned_component") 1166, Value.str (Str.ofString "turned_component") 1167, Value.str (Str.ofString "/claim/cut.py") 1168, Value.int 139 0, Value.int 5 0, Value.int 0 0, Value.int 0 0, Value.int 3 0, Value.ref 476, Value.bool true, Value.int 181 0, Value.ref 477, Value.none, Value.ref 478, Value.ref 479, Value.ref 480, Value.int 1179 0, Value.int 139 0, Value.str (Str.ofString "/claim/cut.py") 1180] }
noncomputable def o_482 (_ : Params) : Obj := { cls := Value.type "function", data := Data.func { name := Str.ofString "turned_component", qualname := Str.ofString "turned_component", params := argS (topS 27), body := FuncBody.stmts (inS (topS 27)), scope := scoS (topS 27), globals := 3, closure := [], defaults := Value.none, kwdefaults := Value.none, pyModule := Value.str (Str.ofString "pixelpress.turning") 1073, code := Value.ref 481 } }
noncomputable def o_483 (_ : Params) : Obj := { cls := Value.type "tuple", data := Data.seq #[] }
noncomputable def o_484 (_ : Params) : Obj := { cls := Value.none, data := Data.fields #[] }
noncomputable def o_485 (_ : Params) : Obj := { cls := Value.type "tuple", data := Data.seq #[Value.str (Str.ofString "grid") 1185, Value.str (Str.ofString "frame") 1186, Value.str (Str.ofString "word") 1187, Value.str (Str.ofString "later") 1188, Value.str (Str.ofString "found") 1189, Value.str (Str.ofString "place") 1190] }
noncomputable def o_486 (_ : Params) : Obj := { cls := Value.type "tuple", data := Data.seq #[] }
noncomputable def o_487 (_ : Params) : Obj := { cls := Value.none, data := Data.func { name := Str.ofString "turned_grid", qualname := Str.ofString "turned_grid", params := argS (topS 28), body := FuncBody.stmts (inS (topS 28)), scope := scoS (topS 28), globals := 0, closure := [], defaults := Value.none, kwdefaults := Value.none } }
noncomputable def o_488 (_ : Params) : Obj := { cls := Value.type "code", data := Data.fields #[Value.str (Str.ofString "turned_grid") 1182, Value.str (Str.ofString "turned_grid") 1183, Value.str (Str.ofString "/claim/cut.py") 1184, Value.int 145 0, Value.int 3 0, Value.int 0 0, Value.int 0 0, Value.int 3 0, Value.ref 483, Value.bool true, Value.int 181 0, Value.ref 484, Value.none, Value.ref 485, Value.ref 486, Value.ref 487, Value.int 1191 0, Value.int 145 0, Value.str (Str.ofString "/claim/cut.py") 1192] }
noncomputable def o_489 (_ : Params) : Obj := { cls := Value.type "function", data := Data.func { name := Str.ofString "turned_grid", qualname := Str.ofString "turned_grid", params := argS (topS 28), body := FuncBody.stmts (inS (topS 28)), scope := scoS (topS 28), globals := 3, closure := [], defaults := Value.none, kwdefaults := Value.none, pyModule := Value.str (Str.ofString "pixelpress.turning") 1073, code := Value.ref 488 } }
noncomputable def o_490 (_ : Params) : Obj := { cls := Value.type "tuple", data := Data.seq #[] }
noncomputable def o_491 (_ : Params) : Obj := { cls := Value.none, data := Data.fields #[] }
noncomputable def o_492 (_ : Params) : Obj := { cls := Value.type "tuple", data := Data.seq #[Value.str (Str.ofString "script") 1199, Value.str (Str.ofString "k") 1200, Value.str (Str.ofString "cell") 1201, Value.str (Str.ofString "big") 1202, Value.str (Str.ofString "mixed") 1203] }
noncomputable def o_493 (_ : Params) : Obj := { cls := Value.type "tuple", data := Data.seq #[] }
noncomputable def o_494 (_ : Params) : Obj := { cls := Value.none, data := Data.func { name := Str.ofString "_law_pool", qualname := Str.ofString "_law_pool", params := argS (topS 30), body := FuncBody.stmts (inS (topS 30)), scope := scoS (topS 30), globals := 0, closure := [], defaults := Value.none, kwdefaults := Value.none } }
noncomputable def o_495 (_ : Params) : Obj := { cls := Value.type "code", data := Data.fields #[Value.str (Str.ofString "_law_pool") 1196, Value.str (Str.ofString "_law_pool") 1197, Value.str (Str.ofString "/claim/cut.py") 1198, Value.int 155 0, Value.int 2 0, Value.int 0 0, Value.int 0 0, Value.int 3 0, Value.ref 490, Value.bool true, Value.int 181 0, Value.ref 491, Value.none, Value.ref 492, Value.ref 493, Value.ref 494, Value.int 1204 0, Value.int 155 0, Value.str (Str.ofString "/claim/cut.py") 1205] }
noncomputable def o_496 (_ : Params) : Obj := { cls := Value.type "function", data := Data.func { name := Str.ofString "_law_pool", qualname := Str.ofString "_law_pool", params := argS (topS 30), body := FuncBody.stmts (inS (topS 30)), scope := scoS (topS 30), globals := 3, closure := [], defaults := Value.none, kwdefaults := Value.none, pyModule := Value.str (Str.ofString "law_nz0249_01") 1194, code := Value.ref 495 } }
noncomputable def o_497 (_ : Params) : Obj := { cls := Value.type "tuple", data := Data.seq #[] }
noncomputable def o_498 (_ : Params) : Obj := { cls := Value.none, data := Data.fields #[] }
noncomputable def o_499 (_ : Params) : Obj := { cls := Value.type "tuple", data := Data.seq #[Value.str (Str.ofString "source") 1210, Value.str (Str.ofString "top") 1211, Value.str (Str.ofString "got") 1212] }
noncomputable def o_500 (_ : Params) : Obj := { cls := Value.type "tuple", data := Data.seq #[] }
noncomputable def o_501 (_ : Params) : Obj := { cls := Value.none, data := Data.func { name := Str.ofString "_law_take", qualname := Str.ofString "_law_take", params := argS (topS 31), body := FuncBody.stmts (inS (topS 31)), scope := scoS (topS 31), globals := 0, closure := [], defaults := Value.none, kwdefaults := Value.none } }
noncomputable def o_502 (_ : Params) : Obj := { cls := Value.type "code", data := Data.fields #[Value.str (Str.ofString "_law_take") 1207, Value.str (Str.ofString "_law_take") 1208, Value.str (Str.ofString "/claim/cut.py") 1209, Value.int 162 0, Value.int 2 0, Value.int 0 0, Value.int 0 0, Value.int 3 0, Value.ref 497, Value.bool true, Value.int 181 0, Value.ref 498, Value.none, Value.ref 499, Value.ref 500, Value.ref 501, Value.int 1213 0, Value.int 162 0, Value.str (Str.ofString "/claim/cut.py") 1214] }
noncomputable def o_503 (_ : Params) : Obj := { cls := Value.type "function", data := Data.func { name := Str.ofString "_law_take", qualname := Str.ofString "_law_take", params := argS (topS 31), body := FuncBody.stmts (inS (topS 31)), scope := scoS (topS 31), globals := 3, closure := [], defaults := Value.none, kwdefaults := Value.none, pyModule := Value.str (Str.ofString "law_nz0249_01") 1194, code := Value.ref 502 } }
noncomputable def o_504 (_ : Params) : Obj := { cls := Value.type "tuple", data := Data.seq #[] }
noncomputable def o_505 (_ : Params) : Obj := { cls := Value.none, data := Data.fields #[] }
noncomputable def o_506 (_ : Params) : Obj := { cls := Value.type "tuple", data := Data.seq #[Value.str (Str.ofString "source") 1219, Value.str (Str.ofString "things") 1220] }
noncomputable def o_507 (_ : Params) : Obj := { cls := Value.type "tuple", data := Data.seq #[] }
noncomputable def o_508 (_ : Params) : Obj := { cls := Value.none, data := Data.func { name := Str.ofString "_law_one", qualname := Str.ofString "_law_one", params := argS (topS 32), body := FuncBody.stmts (inS (topS 32)), scope := scoS (topS 32), globals := 0, closure := [], defaults := Value.none, kwdefaults := Value.none } }
noncomputable def o_509 (_ : Params) : Obj := { cls := Value.type "code", data := Data.fields #[Value.str (Str.ofString "_law_one") 1216, Value.str (Str.ofString "_law_one") 1217, Value.str (Str.ofString "/claim/cut.py") 1218, Value.int 169 0, Value.int 2 0, Value.int 0 0, Value.int 0 0, Value.int 3 0, Value.ref 504, Value.bool true, Value.int 181 0, Value.ref 505, Value.none, Value.ref 506, Value.ref 507, Value.ref 508, Value.int 1221 0, Value.int 169 0, Value.str (Str.ofString "/claim/cut.py") 1222] }
noncomputable def o_510 (_ : Params) : Obj := { cls := Value.type "function", data := Data.func { name := Str.ofString "_law_one", qualname := Str.ofString "_law_one", params := argS (topS 32), body := FuncBody.stmts (inS (topS 32)), scope := scoS (topS 32), globals := 3, closure := [], defaults := Value.none, kwdefaults := Value.none, pyModule := Value.str (Str.ofString "law_nz0249_01") 1194, code := Value.ref 509 } }
noncomputable def o_511 (_ : Params) : Obj := { cls := Value.type "tuple", data := Data.seq #[] }
noncomputable def o_512 (_ : Params) : Obj := { cls := Value.none, data := Data.fields #[] }
noncomputable def o_513 (_ : Params) : Obj := { cls := Value.none, data := Data.func { name := Str.ofString "_law_frame", qualname := Str.ofString "_law_frame", params := argS (topS 33), body := FuncBody.stmts (inS (topS 33)), scope := scoS (topS 33), globals := 0, closure := [], defaults := Value.none, kwdefaults := Value.none } }
noncomputable def o_514 (_ : Params) : Obj := { cls := Value.type "code", data := Data.fields #[Value.str (Str.ofString "_law_frame") 1224, Value.str (Str.ofString "_law_frame") 1225, Value.str (Str.ofString "/claim/cut.py") 1226, Value.int 171 0, Value.int 1 0, Value.int 0 0, Value.int 0 0, Value.int 3 0, Value.ref 511, Value.bool true, Value.int 181 0, Value.ref 512, Value.none, Value.none, Value.none, Value.ref 513, Value.int 1227 0, Value.int 171 0, Value.str (Str.ofString "/claim/cut.py") 1228] }
noncomputable def o_515 (_ : Params) : Obj := { cls := Value.type "function", data := Data.func { name := Str.ofString "_law_frame", qualname := Str.ofString "_law_frame", params := argS (topS 33), body := FuncBody.stmts (inS (topS 33)), scope := scoS (topS 33), globals := 3, closure := [], defaults := Value.none, kwdefaults := Value.none, pyModule := Value.str (Str.ofString "law_nz0249_01") 1194, code := Value.ref 514 } }
noncomputable def o_516 (_ : Params) : Obj := { cls := Value.type "tuple", data := Data.seq #[] }
noncomputable def o_517 (_ : Params) : Obj := { cls := Value.none, data := Data.fields #[] }
noncomputable def o_518 (_ : Params) : Obj := { cls := Value.type "tuple", data := Data.seq #[Value.str (Str.ofString "source") 1233, Value.str (Str.ofString "frame") 1234, Value.str (Str.ofString "grid") 1235, Value.str (Str.ofString "number") 1236, Value.str (Str.ofString "place") 1237, Value.str (Str.ofString "across") 1238, Value.str (Str.ofString "down") 1239, Value.str (Str.ofString "spot") 1240] }
noncomputable def o_519 (_ : Params) : Obj := { cls := Value.type "tuple", data := Data.seq #[] }
noncomputable def o_520 (_ : Params) : Obj := { cls := Value.none, data := Data.func { name := Str.ofString "_law_filled", qualname := Str.ofString "_law_filled", params := argS (topS 34), body := FuncBody.stmts (inS (topS 34)), scope := scoS (topS 34), globals := 0, closure := [], defaults := Value.none, kwdefaults := Value.none } }
noncomputable def o_521 (_ : Params) : Obj := { cls := Value.type "code", data := Data.fields #[Value.str (Str.ofString "_law_filled") 1230, Value.str (Str.ofString "_law_filled") 1231, Value.str (Str.ofString "/claim/cut.py") 1232, Value.int 178 0, Value.int 2 0, Value.int 0 0, Value.int 0 0, Value.int 3 0, Value.ref 516, Value.bool true, Value.int 181 0, Value.ref 517, Value.none, Value.ref 518, Value.ref 519, Value.ref 520, Value.int 1241 0, Value.int 178 0, Value.str (Str.ofString "/claim/cut.py") 1242] }
noncomputable def o_522 (_ : Params) : Obj := { cls := Value.type "function", data := Data.func { name := Str.ofString "_law_filled", qualname := Str.ofString "_law_filled", params := argS (topS 34), body := FuncBody.stmts (inS (topS 34)), scope := scoS (topS 34), globals := 3, closure := [], defaults := Value.none, kwdefaults := Value.none, pyModule := Value.str (Str.ofString "law_nz0249_01") 1194, code := Value.ref 521 } }
noncomputable def o_523 (_ : Params) : Obj := { cls := Value.type "tuple", data := Data.seq #[] }
noncomputable def o_524 (_ : Params) : Obj := { cls := Value.none, data := Data.fields #[] }
noncomputable def o_525 (_ : Params) : Obj := { cls := Value.none, data := Data.func { name := Str.ofString "_law_shown", qualname := Str.ofString "_law_shown", params := argS (topS 35), body := FuncBody.stmts (inS (topS 35)), scope := scoS (topS 35), globals := 0, closure := [], defaults := Value.none, kwdefaults := Value.none } }
noncomputable def o_526 (_ : Params) : Obj := { cls := Value.type "code", data := Data.fields #[Value.str (Str.ofString "_law_shown") 1244, Value.str (Str.ofString "_law_shown") 1245, Value.str (Str.ofString "/claim/cut.py") 1246, Value.int 186 0, Value.int 2 0, Value.int 0 0, Value.int 0 0, Value.int 3 0, Value.ref 523, Value.bool true, Value.int 181 0, Value.ref 524, Value.none, Value.none, Value.none, Value.ref 525, Value.int 1247 0, Value.int 186 0, Value.str (Str.ofString "/claim/cut.py") 1248] }
noncomputable def o_527 (_ : Params) : Obj := { cls := Value.type "function", data := Data.func { name := Str.ofString "_law_shown", qualname := Str.ofString "_law_shown", params := argS (topS 35), body := FuncBody.stmts (inS (topS 35)), scope := scoS (topS 35), globals := 3, closure := [], defaults := Value.none, kwdefaults := Value.none, pyModule := Value.str (Str.ofString "law_nz0249_01") 1194, code := Value.ref 526 } }
noncomputable def o_528 (_ : Params) : Obj := { cls := Value.type "tuple", data := Data.seq #[] }
noncomputable def o_529 (_ : Params) : Obj := { cls := Value.none, data := Data.fields #[] }
noncomputable def o_530 (_ : Params) : Obj := { cls := Value.type "tuple", data := Data.seq #[Value.str (Str.ofString "x") 1253, Value.str (Str.ofString "y") 1254, Value.str (Str.ofString "wide") 1255, Value.str (Str.ofString "high") 1256, Value.str (Str.ofString "turn") 1257] }
noncomputable def o_531 (_ : Params) : Obj := { cls := Value.type "tuple", data := Data.seq #[] }
noncomputable def o_532 (_ : Params) : Obj := { cls := Value.none, data := Data.func { name := Str.ofString "_law_led", qualname := Str.ofString "_law_led", params := argS (topS 36), body := FuncBody.stmts (inS (topS 36)), scope := scoS (topS 36), globals := 0, closure := [], defaults := Value.none, kwdefaults := Value.none } }
noncomputable def o_533 (_ : Params) : Obj := { cls := Value.type "code", data := Data.fields #[Value.str (Str.ofString "_law_led") 1250, Value.str (Str.ofString "_law_led") 1251, Value.str (Str.ofString "/claim/cut.py") 1252, Value.int 193 0, Value.int 5 0, Value.int 0 0, Value.int 0 0, Value.int 3 0, Value.ref 528, Value.bool true, Value.int 181 0, Value.ref 529, Value.none, Value.ref 530, Value.ref 531, Value.ref 532, Value.int 1258 0, Value.int 193 0, Value.str (Str.ofString "/claim/cut.py") 1259] }
noncomputable def o_534 (_ : Params) : Obj := { cls := Value.type "function", data := Data.func { name := Str.ofString "_law_led", qualname := Str.ofString "_law_led", params := argS (topS 36), body := FuncBody.stmts (inS (topS 36)), scope := scoS (topS 36), globals := 3, closure := [], defaults := Value.none, kwdefaults := Value.none, pyModule := Value.str (Str.ofString "law_nz0249_01") 1194, code := Value.ref 533 } }
noncomputable def o_535 (_ : Params) : Obj := { cls := Value.type "tuple", data := Data.seq #[] }
noncomputable def o_536 (_ : Params) : Obj := { cls := Value.none, data := Data.fields #[] }
noncomputable def o_537 (_ : Params) : Obj := { cls := Value.type "tuple", data := Data.seq #[Value.str (Str.ofString "row") 1264, Value.str (Str.ofString "turn") 1265, Value.str (Str.ofString "dc") 1266, Value.str (Str.ofString "first") 1267, Value.str (Str.ofString "second") 1268, Value.str (Str.ofString "third") 1269] }
noncomputable def o_538 (_ : Params) : Obj := { cls := Value.type "tuple", data := Data.seq #[] }
noncomputable def o_539 (_ : Params) : Obj := { cls := Value.none, data := Data.func { name := Str.ofString "_law_bent", qualname := Str.ofString "_law_bent", params := argS (topS 37), body := FuncBody.stmts (inS (topS 37)), scope := scoS (topS 37), globals := 0, closure := [], defaults := Value.none, kwdefaults := Value.none } }
noncomputable def o_540 (_ : Params) : Obj := { cls := Value.type "code", data := Data.fields #[Value.str (Str.ofString "_law_bent") 1261, Value.str (Str.ofString "_law_bent") 1262, Value.str (Str.ofString "/claim/cut.py") 1263, Value.int 207 0, Value.int 2 0, Value.int 0 0, Value.int 0 0, Value.int 3 0, Value.ref 535, Value.bool true, Value.int 181 0, Value.ref 536, Value.none, Value.ref 537, Value.ref 538, Value.ref 539, Value.int 1270 0, Value.int 207 0, Value.str (Str.ofString "/claim/cut.py") 1271] }
noncomputable def o_541 (_ : Params) : Obj := { cls := Value.type "function", data := Data.func { name := Str.ofString "_law_bent", qualname := Str.ofString "_law_bent", params := argS (topS 37), body := FuncBody.stmts (inS (topS 37)), scope := scoS (topS 37), globals := 3, closure := [], defaults := Value.none, kwdefaults := Value.none, pyModule := Value.str (Str.ofString "law_nz0249_01") 1194, code := Value.ref 540 } }
noncomputable def o_542 (_ : Params) : Obj := { cls := Value.type "tuple", data := Data.seq #[] }
noncomputable def o_543 (_ : Params) : Obj := { cls := Value.none, data := Data.fields #[] }
noncomputable def o_544 (_ : Params) : Obj := { cls := Value.none, data := Data.func { name := Str.ofString "_law_rest", qualname := Str.ofString "_law_rest", params := argS (topS 38), body := FuncBody.stmts (inS (topS 38)), scope := scoS (topS 38), globals := 0, closure := [], defaults := Value.none, kwdefaults := Value.none } }
noncomputable def o_545 (_ : Params) : Obj := { cls := Value.type "code", data := Data.fields #[Value.str (Str.ofString "_law_rest") 1273, Value.str (Str.ofString "_law_rest") 1274, Value.str (Str.ofString "/claim/cut.py") 1275, Value.int 216 0, Value.int 2 0, Value.int 0 0, Value.int 0 0, Value.int 3 0, Value.ref 542, Value.bool true, Value.int 181 0, Value.ref 543, Value.none, Value.none, Value.none, Value.ref 544, Value.int 1276 0, Value.int 216 0, Value.str (Str.ofString "/claim/cut.py") 1277] }
noncomputable def o_546 (_ : Params) : Obj := { cls := Value.type "function", data := Data.func { name := Str.ofString "_law_rest", qualname := Str.ofString "_law_rest", params := argS (topS 38), body := FuncBody.stmts (inS (topS 38)), scope := scoS (topS 38), globals := 3, closure := [], defaults := Value.none, kwdefaults := Value.none, pyModule := Value.str (Str.ofString "law_nz0249_01") 1194, code := Value.ref 545 } }
noncomputable def o_547 (_ : Params) : Obj := { cls := Value.type "tuple", data := Data.seq #[] }
noncomputable def o_548 (_ : Params) : Obj := { cls := Value.none, data := Data.fields #[] }
noncomputable def o_549 (_ : Params) : Obj := { cls := Value.type "tuple", data := Data.seq #[Value.str (Str.ofString "frame") 1282, Value.str (Str.ofString "grid") 1283, Value.str (Str.ofString "later") 1284, Value.str (Str.ofString "found") 1285, Value.str (Str.ofString "turn") 1286, Value.str (Str.ofString "swaps") 1287, Value.str (Str.ofString "size") 1288, Value.str (Str.ofString "place") 1289, Value.str (Str.ofString "own") 1290, Value.str (Str.ofString "other") 1291, Value.str (Str.ofString "dense") 1292, Value.str (Str.ofString "wide") 1293, Value.str (Str.ofString "high") 1294, Value.str (Str.ofString "spot") 1295, Value.str (Str.ofString "goal") 1296, Value.str (Str.ofString "seen") 1297] }
noncomputable def o_550 (_ : Params) : Obj := { cls := Value.type "tuple", data := Data.seq #[] }
noncomputable def o_551 (_ : Params) : Obj := { cls := Value.none, data := Data.func { name := Str.ofString "_law_moved_right", qualname := Str.ofString "_law_moved_right", params := argS (topS 39), body := FuncBody.stmts (inS (topS 39)), scope := scoS (topS 39), globals := 0, closure := [], defaults := Value.none, kwdefaults := Value.none } }
noncomputable def o_552 (_ : Params) : Obj := { cls := Value.type "code", data := Data.fields #[Value.str (Str.ofString "_law_moved_right") 1279, Value.str (Str.ofString "_law_moved_right") 1280, Value.str (Str.ofString "/claim/cut.py") 1281, Value.int 221 0, Value.int 5 0, Value.int 0 0, Value.int 0 0, Value.int 3 0, Value.ref 547, Value.bool true, Value.int 181 0, Value.ref 548, Value.none, Value.ref 549, Value.ref 550, Value.ref 551, Value.int 1298 0, Value.int 221 0, Value.str (Str.ofString "/claim/cut.py") 1299] }
noncomputable def o_553 (_ : Params) : Obj := { cls := Value.type "function", data := Data.func { name := Str.ofString "_law_moved_right", qualname := Str.ofString "_law_moved_right", params := argS (topS 39), body := FuncBody.stmts (inS (topS 39)), scope := scoS (topS 39), globals := 3, closure := [], defaults := Value.none, kwdefaults := Value.none, pyModule := Value.str (Str.ofString "law_nz0249_01") 1194, code := Value.ref 552 } }
noncomputable def o_554 (_ : Params) : Obj := { cls := Value.type "tuple", data := Data.seq #[] }
noncomputable def o_555 (_ : Params) : Obj := { cls := Value.none, data := Data.fields #[] }
noncomputable def o_556 (_ : Params) : Obj := { cls := Value.type "tuple", data := Data.seq #[Value.str (Str.ofString "grid") 1304, Value.str (Str.ofString "frame") 1305, Value.str (Str.ofString "turn") 1306] }
noncomputable def o_557 (_ : Params) : Obj := { cls := Value.type "tuple", data := Data.seq #[] }
noncomputable def o_558 (_ : Params) : Obj := { cls := Value.none, data := Data.func { name := Str.ofString "_law_is_refused", qualname := Str.ofString "_law_is_refused", params := argS (topS 40), body := FuncBody.stmts (inS (topS 40)), scope := scoS (topS 40), globals := 0, closure := [], defaults := Value.none, kwdefaults := Value.none } }
noncomputable def o_559 (_ : Params) : Obj := { cls := Value.type "code", data := Data.fields #[Value.str (Str.ofString "_law_is_refused") 1301, Value.str (Str.ofString "_law_is_refused") 1302, Value.str (Str.ofString "/claim/cut.py") 1303, Value.int 239 0, Value.int 3 0, Value.int 0 0, Value.int 0 0, Value.int 3 0, Value.ref 554, Value.bool true, Value.int 181 0, Value.ref 555, Value.none, Value.ref 556, Value.ref 557, Value.ref 558, Value.int 1307 0, Value.int 239 0, Value.str (Str.ofString "/claim/cut.py") 1308] }
noncomputable def o_560 (_ : Params) : Obj := { cls := Value.type "function", data := Data.func { name := Str.ofString "_law_is_refused", qualname := Str.ofString "_law_is_refused", params := argS (topS 40), body := FuncBody.stmts (inS (topS 40)), scope := scoS (topS 40), globals := 3, closure := [], defaults := Value.none, kwdefaults := Value.none, pyModule := Value.str (Str.ofString "law_nz0249_01") 1194, code := Value.ref 559 } }
noncomputable def o_561 (_ : Params) : Obj := { cls := Value.type "tuple", data := Data.seq #[] }
noncomputable def o_562 (_ : Params) : Obj := { cls := Value.none, data := Data.fields #[] }
noncomputable def o_563 (_ : Params) : Obj := { cls := Value.type "tuple", data := Data.seq #[Value.str (Str.ofString "script") 1313, Value.str (Str.ofString "source") 1314, Value.str (Str.ofString "frame") 1315, Value.str (Str.ofString "grid") 1316, Value.str (Str.ofString "ahead") 1317, Value.str (Str.ofString "turn") 1318, Value.str (Str.ofString "later") 1319, Value.str (Str.ofString "found") 1320, Value.str (Str.ofString "home") 1321, Value.str (Str.ofString "last") 1322, Value.str (Str.ofString "again") 1323] }
noncomputable def o_564 (_ : Params) : Obj := { cls := Value.type "tuple", data := Data.seq #[] }
noncomputable def o_565 (_ : Params) : Obj := { cls := Value.none, data := Data.func { name := Str.ofString "law", qualname := Str.ofString "law", params := argS (topS 41), body := FuncBody.stmts (inS (topS 41)), scope := scoS (topS 41), globals := 0, closure := [], defaults := Value.none, kwdefaults := Value.none } }
noncomputable def o_566 (_ : Params) : Obj := { cls := Value.type "code", data := Data.fields #[Value.str (Str.ofString "law") 1310, Value.str (Str.ofString "law") 1311, Value.str (Str.ofString "/claim/cut.py") 1312, Value.int 247 0, Value.int 1 0, Value.int 0 0, Value.int 0 0, Value.int 3 0, Value.ref 561, Value.bool true, Value.int 181 0, Value.ref 562, Value.none, Value.ref 563, Value.ref 564, Value.ref 565, Value.int 1324 0, Value.int 247 0, Value.str (Str.ofString "/claim/cut.py") 1325] }
noncomputable def o_567 (_ : Params) : Obj := { cls := Value.type "function", data := Data.func { name := Str.ofString "law", qualname := Str.ofString "law", params := argS (topS 41), body := FuncBody.stmts (inS (topS 41)), scope := scoS (topS 41), globals := 3, closure := [], defaults := Value.none, kwdefaults := Value.none, pyModule := Value.str (Str.ofString "law_nz0249_01") 1194, code := Value.ref 566 } }
noncomputable def finT (P : Params) : BT := (.node (o_0 P) (.node (o_1 P) (.node (o_3 P) (.node (o_7 P) (.node (o_15 P) (.node (o_31 P) (.node (o_63 P) (.node (o_127 P) (.node (o_255 P) (.node (o_511 P) .nil .nil) .nil) (.node (o_383 P) .nil .nil)) (.node (o_191 P) (.node (o_319 P) .nil .nil) (.node (o_447 P) .nil .nil))) (.node (o_95 P) (.node (o_159 P) (.node (o_287 P) (.node (o_543 P) .nil .nil) .nil) (.node (o_415 P) .nil .nil)) (.node (o_223 P) (.node (o_351 P) .nil .nil) (.node (o_479 P) .nil .nil)))) (.node (o_47 P) (.node (o_79 P) (.node (o_143 P) (.node (o_271 P) (.node (o_527 P) .nil .nil) .nil) (.node (o_399 P) .nil .nil)) (.node (o_207 P) (.node (o_335 P) .nil .nil) (.node (o_463 P) .nil .nil))) (.node (o_111 P) (.node (o_175 P) (.node (o_303 P) (.node (o_559 P) .nil .nil) .nil) (.node (o_431 P) .nil .nil)) (.node (o_239 P) (.node (o_367 P) .nil .nil) (.node (o_495 P) .nil .nil))))) (.node (o_23 P) (.node (o_39 P) (.node (o_71 P) (.node (o_135 P) (.node (o_263 P) (.node (o_519 P) .nil .nil) .nil) (.node (o_391 P) .nil .nil)) (.node (o_199 P) (.node (o_327 P) .nil .nil) (.node (o_455 P) .nil .nil))) (.node (o_103 P) (.node (o_167 P) (.node (o_295 P) (.node (o_551 P) .nil .nil) .nil) (.node (o_423 P) .nil .nil)) (.node (o_231 P) (.node (o_359 P) .nil .nil) (.node (o_487 P) .nil .nil)))) (.node (o_55 P) (.node (o_87 P) (.node (o_151 P) (.node (o_279 P) (.node (o_535 P) .nil .nil) .nil) (.node (o_407 P) .nil .nil)) (.node (o_215 P) (.node (o_343 P) .nil .nil) (.node (o_471 P) .nil .nil))) (.node (o_119 P) (.node (o_183 P) (.node (o_311 P) (.node (o_567 P) .nil .nil) .nil) (.node (o_439 P) .nil .nil)) (.node (o_247 P) (.node (o_375 P) .nil .nil) (.node (o_503 P) .nil .nil)))))) (.node (o_11 P) (.node (o_19 P) (.node (o_35 P) (.node (o_67 P) (.node (o_131 P) (.node (o_259 P) (.node (o_515 P) .nil .nil) .nil) (.node (o_387 P) .nil .nil)) (.node (o_195 P) (.node (o_323 P) .nil .nil) (.node (o_451 P) .nil .nil))) (.node (o_99 P) (.node (o_163 P) (.node (o_291 P) (.node (o_547 P) .nil .nil) .nil) (.node (o_419 P) .nil .nil)) (.node (o_227 P) (.node (o_355 P) .nil .nil) (.node (o_483 P) .nil .nil)))) (.node (o_51 P) (.node (o_83 P) (.node (o_147 P) (.node (o_275 P) (.node (o_531 P) .nil .nil) .nil) (.node (o_403 P) .nil .nil)) (.node (o_211 P) (.node (o_339 P) .nil .nil) (.node (o_467 P) .nil .nil))) (.node (o_115 P) (.node (o_179 P) (.node (o_307 P) (.node (o_563 P) .nil .nil) .nil) (.node (o_435 P) .nil .nil)) (.node (o_243 P) (.node (o_371 P) .nil .nil) (.node (o_499 P) .nil .nil))))) (.node (o_27 P) (.node (o_43 P) (.node (o_75 P) (.node (o_139 P) (.node (o_267 P) (.node (o_523 P) .nil .nil) .nil) (.node (o_395 P) .nil .nil)) (.node (o_203 P) (.node (o_331 P) .nil .nil) (.node (o_459 P) .nil .nil))) (.node (o_107 P) (.node (o_171 P) (.node (o_299 P) (.node (o_555 P) .nil .nil) .nil) (.node (o_427 P) .nil .nil)) (.node (o_235 P) (.node (o_363 P) .nil .nil) (.node (o_491 P) .nil .nil)))) (.node (o_59 P) (.node (o_91 P) (.node (o_155 P) (.node (o_283 P) (.node (o_539 P) .nil .nil) .nil) (.node (o_411 P) .nil .nil)) (.node (o_219 P) (.node (o_347 P) .nil .nil) (.node (o_475 P) .nil .nil))) (.node (o_123 P) (.node (o_187 P) (.node (o_315 P) .nil .nil) (.node (o_443 P) .nil .nil)) (.node (o_251 P) (.node (o_379 P) .nil .nil) (.node (o_507 P) .nil .nil))))))) (.node (o_5 P) (.node (o_9 P) (.node (o_17 P) (.node (o_33 P) (.node (o_65 P) (.node (o_129 P) (.node (o_257 P) (.node (o_513 P) .nil .nil) .nil) (.node (o_385 P) .nil .nil)) (.node (o_193 P) (.node (o_321 P) .nil .nil) (.node (o_449 P) .nil .nil))) (.node (o_97 P) (.node (o_161 P) (.node (o_289 P) (.node (o_545 P) .nil .nil) .nil) (.node (o_417 P) .nil .nil)) (.node (o_225 P) (.node (o_353 P) .nil .nil) (.node (o_481 P) .nil .nil)))) (.node (o_49 P) (.node (o_81 P) (.node (o_145 P) (.node (o_273 P) (.node (o_529 P) .nil .nil) .nil) (.node (o_401 P) .nil .nil)) (.node (o_209 P) (.node (o_337 P) .nil .nil) (.node (o_465 P) .nil .nil))) (.node (o_113 P) (.node (o_177 P) (.node (o_305 P) (.node (o_561 P) .nil .nil) .nil) (.node (o_433 P) .nil .nil)) (.node (o_241 P) (.node (o_369 P) .nil .nil) (.node (o_497 P) .nil .nil))))) (.node (o_25 P) (.node (o_41 P) (.node (o_73 P) (.node (o_137 P) (.node (o_265 P) (.node (o_521 P) .nil .nil) .nil) (.node (o_393 P) .nil .nil)) (.node (o_201 P) (.node (o_329 P) .nil .nil) (.node (o_457 P) .nil .nil))) (.node (o_105 P) (.node (o_169 P) (.node (o_297 P) (.node (o_553 P) .nil .nil) .nil) (.node (o_425 P) .nil .nil)) (.node (o_233 P) (.node (o_361 P) .nil .nil) (.node (o_489 P) .nil .nil)))) (.node (o_57 P) (.node (o_89 P) (.node (o_153 P) (.node (o_281 P) (.node (o_537 P) .nil .nil) .nil) (.node (o_409 P) .nil .nil)) (.node (o_217 P) (.node (o_345 P) .nil .nil) (.node (o_473 P) .nil .nil))) (.node (o_121 P) (.node (o_185 P) (.node (o_313 P) .nil .nil) (.node (o_441 P) .nil .nil)) (.node (o_249 P) (.node (o_377 P) .nil .nil) (.node (o_505 P) .nil .nil)))))) (.node (o_13 P) (.node (o_21 P) (.node (o_37 P) (.node (o_69 P) (.node (o_133 P) (.node (o_261 P) (.node (o_517 P) .nil .nil) .nil) (.node (o_389 P) .nil .nil)) (.node (o_197 P) (.node (o_325 P) .nil .nil) (.node (o_453 P) .nil .nil))) (.node (o_101 P) (.node (o_165 P) (.node (o_293 P) (.node (o_549 P) .nil .nil) .nil) (.node (o_421 P) .nil .nil)) (.node (o_229 P) (.node (o_357 P) .nil .nil) (.node (o_485 P) .nil .nil)))) (.node (o_53 P) (.node (o_85 P) (.node (o_149 P) (.node (o_277 P) (.node (o_533 P) .nil .nil) .nil) (.node (o_405 P) .nil .nil)) (.node (o_213 P) (.node (o_341 P) .nil .nil) (.node (o_469 P) .nil .nil))) (.node (o_117 P) (.node (o_181 P) (.node (o_309 P) (.node (o_565 P) .nil .nil) .nil) (.node (o_437 P) .nil .nil)) (.node (o_245 P) (.node (o_373 P) .nil .nil) (.node (o_501 P) .nil .nil))))) (.node (o_29 P) (.node (o_45 P) (.node (o_77 P) (.node (o_141 P) (.node (o_269 P) (.node (o_525 P) .nil .nil) .nil) (.node (o_397 P) .nil .nil)) (.node (o_205 P) (.node (o_333 P) .nil .nil) (.node (o_461 P) .nil .nil))) (.node (o_109 P) (.node (o_173 P) (.node (o_301 P) (.node (o_557 P) .nil .nil) .nil) (.node (o_429 P) .nil .nil)) (.node (o_237 P) (.node (o_365 P) .nil .nil) (.node (o_493 P) .nil .nil)))) (.node (o_61 P) (.node (o_93 P) (.node (o_157 P) (.node (o_285 P) (.node (o_541 P) .nil .nil) .nil) (.node (o_413 P) .nil .nil)) (.node (o_221 P) (.node (o_349 P) .nil .nil) (.node (o_477 P) .nil .nil))) (.node (o_125 P) (.node (o_189 P) (.node (o_317 P) .nil .nil) (.node (o_445 P) .nil .nil)) (.node (o_253 P) (.node (o_381 P) .nil .nil) (.node (o_509 P) .nil .nil)))))))) (.node (o_2 P) (.node (o_4 P) (.node (o_8 P) (.node (o_16 P) (.node (o_32 P) (.node (o_64 P) (.node (o_128 P) (.node (o_256 P) (.node (o_512 P) .nil .nil) .nil) (.node (o_384 P) .nil .nil)) (.node (o_192 P) (.node (o_320 P) .nil .nil) (.node (o_448 P) .nil .nil))) (.node (o_96 P) (.node (o_160 P) (.node (o_288 P) (.node (o_544 P) .nil .nil) .nil) (.node (o_416 P) .nil .nil)) (.node (o_224 P) (.node (o_352 P) .nil .nil) (.node (o_480 P) .nil .nil)))) (.node (o_48 P) (.node (o_80 P) (.node (o_144 P) (.node (o_272 P) (.node (o_528 P) .nil .nil) .nil) (.node (o_400 P) .nil .nil)) (.node (o_208 P) (.node (o_336 P) .nil .nil) (.node (o_464 P) .nil .nil))) (.node (o_112 P) (.node (o_176 P) (.node (o_304 P) (.node (o_560 P) .nil .nil) .nil) (.node (o_432 P) .nil .nil)) (.node (o_240 P) (.node (o_368 P) .nil .nil) (.node (o_496 P) .nil .nil))))) (.node (o_24 P) (.node (o_40 P) (.node (o_72 P) (.node (o_136 P) (.node (o_264 P) (.node (o_520 P) .nil .nil) .nil) (.node (o_392 P) .nil .nil)) (.node (o_200 P) (.node (o_328 P) .nil .nil) (.node (o_456 P) .nil .nil))) (.node (o_104 P) (.node (o_168 P) (.node (o_296 P) (.node (o_552 P) .nil .nil) .nil) (.node (o_424 P) .nil .nil)) (.node (o_232 P) (.node (o_360 P) .nil .nil) (.node (o_488 P) .nil .nil)))) (.node (o_56 P) (.node (o_88 P) (.node (o_152 P) (.node (o_280 P) (.node (o_536 P) .nil .nil) .nil) (.node (o_408 P) .nil .nil)) (.node (o_216 P) (.node (o_344 P) .nil .nil) (.node (o_472 P) .nil .nil))) (.node (o_120 P) (.node (o_184 P) (.node (o_312 P) .nil .nil) (.node (o_440 P) .nil .nil)) (.node (o_248 P) (.node (o_376 P) .nil .nil) (.node (o_504 P) .nil .nil)))))) (.node (o_12 P) (.node (o_20 P) (.node (o_36 P) (.node (o_68 P) (.node (o_132 P) (.node (o_260 P) (.node (o_516 P) .nil .nil) .nil) (.node (o_388 P) .nil .nil)) (.node (o_196 P) (.node (o_324 P) .nil .nil) (.node (o_452 P) .nil .nil))) (.node (o_100 P) (.node (o_164 P) (.node (o_292 P) (.node (o_548 P) .nil .nil) .nil) (.node (o_420 P) .nil .nil)) (.node (o_228 P) (.node (o_356 P) .nil .nil) (.node (o_484 P) .nil .nil)))) (.node (o_52 P) (.node (o_84 P) (.node (o_148 P) (.node (o_276 P) (.node (o_532 P) .nil .nil) .nil) (.node (o_404 P) .nil .nil)) (.node (o_212 P) (.node (o_340 P) .nil .nil) (.node (o_468 P) .nil .nil))) (.node (o_116 P) (.node (o_180 P) (.node (o_308 P) (.node (o_564 P) .nil .nil) .nil) (.node (o_436 P) .nil .nil)) (.node (o_244 P) (.node (o_372 P) .nil .nil) (.node (o_500 P) .nil .nil))))) (.node (o_28 P) (.node (o_44 P) (.node (o_76 P) (.node (o_140 P) (.node (o_268 P) (.node (o_524 P) .nil .nil) .nil) (.node (o_396 P) .nil .nil)) (.node (o_204 P) (.node (o_332 P) .nil .nil) (.node (o_460 P) .nil .nil))) (.node (o_108 P) (.node (o_172 P) (.node (o_300 P) (.node (o_556 P) .nil .nil) .nil) (.node (o_428 P) .nil .nil)) (.node (o_236 P) (.node (o_364 P) .nil .nil) (.node (o_492 P) .nil .nil)))) (.node (o_60 P) (.node (o_92 P) (.node (o_156 P) (.node (o_284 P) (.node (o_540 P) .nil .nil) .nil) (.node (o_412 P) .nil .nil)) (.node (o_220 P) (.node (o_348 P) .nil .nil) (.node (o_476 P) .nil .nil))) (.node (o_124 P) (.node (o_188 P) (.node (o_316 P) .nil .nil) (.node (o_444 P) .nil .nil)) (.node (o_252 P) (.node (o_380 P) .nil .nil) (.node (o_508 P) .nil .nil))))))) (.node (o_6 P) (.node (o_10 P) (.node (o_18 P) (.node (o_34 P) (.node (o_66 P) (.node (o_130 P) (.node (o_258 P) (.node (o_514 P) .nil .nil) .nil) (.node (o_386 P) .nil .nil)) (.node (o_194 P) (.node (o_322 P) .nil .nil) (.node (o_450 P) .nil .nil))) (.node (o_98 P) (.node (o_162 P) (.node (o_290 P) (.node (o_546 P) .nil .nil) .nil) (.node (o_418 P) .nil .nil)) (.node (o_226 P) (.node (o_354 P) .nil .nil) (.node (o_482 P) .nil .nil)))) (.node (o_50 P) (.node (o_82 P) (.node (o_146 P) (.node (o_274 P) (.node (o_530 P) .nil .nil) .nil) (.node (o_402 P) .nil .nil)) (.node (o_210 P) (.node (o_338 P) .nil .nil) (.node (o_466 P) .nil .nil))) (.node (o_114 P) (.node (o_178 P) (.node (o_306 P) (.node (o_562 P) .nil .nil) .nil) (.node (o_434 P) .nil .nil)) (.node (o_242 P) (.node (o_370 P) .nil .nil) (.node (o_498 P) .nil .nil))))) (.node (o_26 P) (.node (o_42 P) (.node (o_74 P) (.node (o_138 P) (.node (o_266 P) (.node (o_522 P) .nil .nil) .nil) (.node (o_394 P) .nil .nil)) (.node (o_202 P) (.node (o_330 P) .nil .nil) (.node (o_458 P) .nil .nil))) (.node (o_106 P) (.node (o_170 P) (.node (o_298 P) (.node (o_554 P) .nil .nil) .nil) (.node (o_426 P) .nil .nil)) (.node (o_234 P) (.node (o_362 P) .nil .nil) (.node (o_490 P) .nil .nil)))) (.node (o_58 P) (.node (o_90 P) (.node (o_154 P) (.node (o_282 P) (.node (o_538 P) .nil .nil) .nil) (.node (o_410 P) .nil .nil)) (.node (o_218 P) (.node (o_346 P) .nil .nil) (.node (o_474 P) .nil .nil))) (.node (o_122 P) (.node (o_186 P) (.node (o_314 P) .nil .nil) (.node (o_442 P) .nil .nil)) (.node (o_250 P) (.node (o_378 P) .nil .nil) (.node (o_506 P) .nil .nil)))))) (.node (o_14 P) (.node (o_22 P) (.node (o_38 P) (.node (o_70 P) (.node (o_134 P) (.node (o_262 P) (.node (o_518 P) .nil .nil) .nil) (.node (o_390 P) .nil .nil)) (.node (o_198 P) (.node (o_326 P) .nil .nil) (.node (o_454 P) .nil .nil))) (.node (o_102 P) (.node (o_166 P) (.node (o_294 P) (.node (o_550 P) .nil .nil) .nil) (.node (o_422 P) .nil .nil)) (.node (o_230 P) (.node (o_358 P) .nil .nil) (.node (o_486 P) .nil .nil)))) (.node (o_54 P) (.node (o_86 P) (.node (o_150 P) (.node (o_278 P) (.node (o_534 P) .nil .nil) .nil) (.node (o_406 P) .nil .nil)) (.node (o_214 P) (.node (o_342 P) .nil .nil) (.node (o_470 P) .nil .nil))) (.node (o_118 P) (.node (o_182 P) (.node (o_310 P) (.node (o_566 P) .nil .nil) .nil) (.node (o_438 P) .nil .nil)) (.node (o_246 P) (.node (o_374 P) .nil .nil) (.node (o_502 P) .nil .nil))))) (.node (o_30 P) (.node (o_46 P) (.node (o_78 P) (.node (o_142 P) (.node (o_270 P) (.node (o_526 P) .nil .nil) .nil) (.node (o_398 P) .nil .nil)) (.node (o_206 P) (.node (o_334 P) .nil .nil) (.node (o_462 P) .nil .nil))) (.node (o_110 P) (.node (o_174 P) (.node (o_302 P) (.node (o_558 P) .nil .nil) .nil) (.node (o_430 P) .nil .nil)) (.node (o_238 P) (.node (o_366 P) .nil .nil) (.node (o_494 P) .nil .nil)))) (.node (o_62 P) (.node (o_94 P) (.node (o_158 P) (.node (o_286 P) (.node (o_542 P) .nil .nil) .nil) (.node (o_414 P) .nil .nil)) (.node (o_222 P) (.node (o_350 P) .nil .nil) (.node (o_478 P) .nil .nil))) (.node (o_126 P) (.node (o_190 P) (.node (o_318 P) .nil .nil) (.node (o_446 P) .nil .nil)) (.node (o_254 P) (.node (o_382 P) .nil .nil) (.node (o_510 P) .nil .nil)))))))))
noncomputable def KK : Params → Frag := fun P => (nat_lit 2, o_2 P) :: (nat_lit 3, o_3 P) :: (nat_lit 15, o_15 P) :: (nat_lit 22, o_22 P) :: (nat_lit 24, o_24 P) :: (nat_lit 25, o_25 P) :: (nat_lit 27, o_27 P) :: (nat_lit 28, o_28 P) :: (nat_lit 29, o_29 P) :: (nat_lit 30, o_30 P) :: (nat_lit 31, o_31 P) :: (nat_lit 32, o_32 P) :: (nat_lit 35, o_35 P) :: (nat_lit 42, o_42 P) :: (nat_lit 43, o_43 P) :: (nat_lit 44, o_44 P) :: (nat_lit 47, o_47 P) :: (nat_lit 54, o_54 P) :: (nat_lit 55, o_55 P) :: (nat_lit 56, o_56 P) :: (nat_lit 59, o_59 P) :: (nat_lit 61, o_61 P) :: (nat_lit 62, o_62 P) :: (nat_lit 64, o_64 P) :: (nat_lit 65, o_65 P) :: (nat_lit 73, o_73 P) :: (nat_lit 75, o_75 P) :: (nat_lit 76, o_76 P) :: (nat_lit 78, o_78 P) :: (nat_lit 79, o_79 P) :: (nat_lit 80, o_80 P) :: (nat_lit 81, o_81 P) :: (nat_lit 82, o_82 P) :: (nat_lit 83, o_83 P) :: (nat_lit 84, o_84 P) :: (nat_lit 94, o_94 P) :: (nat_lit 96, o_96 P) :: (nat_lit 97, o_97 P) :: (nat_lit 99, o_99 P) :: (nat_lit 100, o_100 P) :: (nat_lit 101, o_101 P) :: (nat_lit 104, o_104 P) :: (nat_lit 105, o_105 P) :: (nat_lit 106, o_106 P) :: (nat_lit 109, o_109 P) :: (nat_lit 110, o_110 P) :: (nat_lit 111, o_111 P) :: (nat_lit 113, o_113 P) :: (nat_lit 114, o_114 P) :: (nat_lit 116, o_116 P) :: (nat_lit 117, o_117 P) :: (nat_lit 118, o_118 P) :: (nat_lit 120, o_120 P) :: (nat_lit 121, o_121 P) :: (nat_lit 123, o_123 P) :: (nat_lit 124, o_124 P) :: (nat_lit 125, o_125 P) :: (nat_lit 127, o_127 P) :: (nat_lit 128, o_128 P) :: (nat_lit 130, o_130 P) :: (nat_lit 131, o_131 P) :: (nat_lit 132, o_132 P) :: (nat_lit 134, o_134 P) :: (nat_lit 135, o_135 P) :: (nat_lit 137, o_137 P) :: (nat_lit 138, o_138 P) :: (nat_lit 139, o_139 P) :: (nat_lit 141, o_141 P) :: (nat_lit 142, o_142 P) :: (nat_lit 144, o_144 P) :: (nat_lit 145, o_145 P) :: (nat_lit 146, o_146 P) :: (nat_lit 147, o_147 P) :: (nat_lit 148, o_148 P) :: (nat_lit 149, o_149 P) :: (nat_lit 150, o_150 P) :: (nat_lit 160, o_160 P) :: (nat_lit 163, o_163 P) :: (nat_lit 164, o_164 P) :: (nat_lit 165, o_165 P) :: (nat_lit 167, o_167 P) :: (nat_lit 168, o_168 P) :: (nat_lit 170, o_170 P) :: (nat_lit 171, o_171 P) :: (nat_lit 172, o_172 P) :: (nat_lit 174, o_174 P) :: (nat_lit 175, o_175 P) :: (nat_lit 177, o_177 P) :: (nat_lit 178, o_178 P) :: (nat_lit 179, o_179 P) :: (nat_lit 180, o_180 P) :: (nat_lit 181, o_181 P) :: (nat_lit 182, o_182 P) :: (nat_lit 183, o_183 P) :: (nat_lit 186, o_186 P) :: (nat_lit 188, o_188 P) :: (nat_lit 189, o_189 P) :: (nat_lit 191, o_191 P) :: (nat_lit 192, o_192 P) :: (nat_lit 410, o_410 P) :: (nat_lit 411, o_411 P) :: (nat_lit 413, o_413 P) :: (nat_lit 414, o_414 P) :: (nat_lit 416, o_416 P) :: (nat_lit 417, o_417 P) :: (nat_lit 418, o_418 P) :: (nat_lit 421, o_421 P) :: (nat_lit 422, o_422 P) :: (nat_lit 423, o_423 P) :: (nat_lit 425, o_425 P) :: (nat_lit 426, o_426 P) :: (nat_lit 428, o_428 P) :: (nat_lit 429, o_429 P) :: (nat_lit 430, o_430 P) :: (nat_lit 431, o_431 P) :: (nat_lit 432, o_432 P) :: (nat_lit 433, o_433 P) :: (nat_lit 434, o_434 P) :: (nat_lit 436, o_436 P) :: (nat_lit 437, o_437 P) :: (nat_lit 439, o_439 P) :: (nat_lit 440, o_440 P) :: (nat_lit 441, o_441 P) :: (nat_lit 443, o_443 P) :: (nat_lit 444, o_444 P) :: (nat_lit 446, o_446 P) :: (nat_lit 447, o_447 P) :: (nat_lit 448, o_448 P) :: (nat_lit 450, o_450 P) :: (nat_lit 451, o_451 P) :: (nat_lit 453, o_453 P) :: (nat_lit 454, o_454 P) :: (nat_lit 455, o_455 P) :: (nat_lit 457, o_457 P) :: (nat_lit 458, o_458 P) :: (nat_lit 460, o_460 P) :: (nat_lit 461, o_461 P) :: (nat_lit 462, o_462 P) :: (nat_lit 464, o_464 P) :: (nat_lit 465, o_465 P) :: (nat_lit 467, o_467 P) :: (nat_lit 468, o_468 P) :: (nat_lit 469, o_469 P) :: (nat_lit 471, o_471 P) :: (nat_lit 472, o_472 P) :: (nat_lit 474, o_474 P) :: (nat_lit 475, o_475 P) :: (nat_lit 476, o_476 P) :: (nat_lit 478, o_478 P) :: (nat_lit 479, o_479 P) :: (nat_lit 481, o_481 P) :: (nat_lit 482, o_482 P) :: (nat_lit 483, o_483 P) :: (nat_lit 485, o_485 P) :: (nat_lit 486, o_486 P) :: (nat_lit 488, o_488 P) :: (nat_lit 489, o_489 P) :: (nat_lit 490, o_490 P) :: (nat_lit 492, o_492 P) :: (nat_lit 493, o_493 P) :: (nat_lit 495, o_495 P) :: (nat_lit 496, o_496 P) :: (nat_lit 497, o_497 P) :: (nat_lit 499, o_499 P) :: (nat_lit 500, o_500 P) :: (nat_lit 502, o_502 P) :: (nat_lit 503, o_503 P) :: (nat_lit 504, o_504 P) :: (nat_lit 506, o_506 P) :: (nat_lit 507, o_507 P) :: (nat_lit 509, o_509 P) :: (nat_lit 510, o_510 P) :: (nat_lit 511, o_511 P) :: (nat_lit 514, o_514 P) :: (nat_lit 515, o_515 P) :: (nat_lit 516, o_516 P) :: (nat_lit 518, o_518 P) :: (nat_lit 519, o_519 P) :: (nat_lit 521, o_521 P) :: (nat_lit 522, o_522 P) :: (nat_lit 523, o_523 P) :: (nat_lit 526, o_526 P) :: (nat_lit 527, o_527 P) :: (nat_lit 528, o_528 P) :: (nat_lit 530, o_530 P) :: (nat_lit 531, o_531 P) :: (nat_lit 533, o_533 P) :: (nat_lit 534, o_534 P) :: (nat_lit 535, o_535 P) :: (nat_lit 537, o_537 P) :: (nat_lit 538, o_538 P) :: (nat_lit 540, o_540 P) :: (nat_lit 541, o_541 P) :: (nat_lit 542, o_542 P) :: (nat_lit 545, o_545 P) :: (nat_lit 546, o_546 P) :: (nat_lit 547, o_547 P) :: (nat_lit 549, o_549 P) :: (nat_lit 550, o_550 P) :: (nat_lit 552, o_552 P) :: (nat_lit 553, o_553 P) :: (nat_lit 554, o_554 P) :: (nat_lit 556, o_556 P) :: (nat_lit 557, o_557 P) :: (nat_lit 559, o_559 P) :: (nat_lit 560, o_560 P) :: (nat_lit 561, o_561 P) :: (nat_lit 563, o_563 P) :: (nat_lit 564, o_564 P) :: (nat_lit 566, o_566 P) :: (nat_lit 567, o_567 P) :: []
noncomputable def kIdx : List Nat := [2, 3, 15, 22, 24, 25, 27, 28, 29, 30, 31, 32, 35, 42, 43, 44, 47, 54, 55, 56, 59, 61, 62, 64, 65, 73, 75, 76, 78, 79, 80, 81, 82, 83, 84, 94, 96, 97, 99, 100, 101, 104, 105, 106, 109, 110, 111, 113, 114, 116, 117, 118, 120, 121, 123, 124, 125, 127, 128, 130, 131, 132, 134, 135, 137, 138, 139, 141, 142, 144, 145, 146, 147, 148, 149, 150, 160, 163, 164, 165, 167, 168, 170, 171, 172, 174, 175, 177, 178, 179, 180, 181, 182, 183, 186, 188, 189, 191, 192, 410, 411, 413, 414, 416, 417, 418, 421, 422, 423, 425, 426, 428, 429, 430, 431, 432, 433, 434, 436, 437, 439, 440, 441, 443, 444, 446, 447, 448, 450, 451, 453, 454, 455, 457, 458, 460, 461, 462, 464, 465, 467, 468, 469, 471, 472, 474, 475, 476, 478, 479, 481, 482, 483, 485, 486, 488, 489, 490, 492, 493, 495, 496, 497, 499, 500, 502, 503, 504, 506, 507, 509, 510, 511, 514, 515, 516, 518, 519, 521, 522, 523, 526, 527, 528, 530, 531, 533, 534, 535, 537, 538, 540, 541, 542, 545, 546, 547, 549, 550, 552, 553, 554, 556, 557, 559, 560, 561, 563, 564, 566, 567]
noncomputable def finS (w : World) (os : OsState) : SharedT := ⟨finT w.params, 568, {}, Array.mk [], {}, 1327, os⟩
theorem run_f (w : World) : (fun os => (PySem.W.Fast.tw10110043849684766642 PySem.W.Fast.tw14364793385576792824 pw (w.withFollow "special-get-raises" false) 11 (some (.ref 6)) 0 12000 (startS (w.withFollow "special-get-raises" false) os) (topStub pw)).map (fun r => r.2.1)) = fun os => some (finS (w.withFollow "special-get-raises" false) os) := by kernel_rfl
theorem run_t (w : World) : (fun os => (PySem.W.Fast.tw10110043849684766642 PySem.W.Fast.tw14364793385576792824 pw (w.withFollow "special-get-raises" true) 11 (some (.ref 6)) 0 12000 (startS (w.withFollow "special-get-raises" true) os) (topStub pw)).map (fun r => r.2.1)) = fun os => some (finS (w.withFollow "special-get-raises" true) os) := by kernel_rfl
theorem run_all (w : World) : ∀ os, (segRunT treeTable pw w 11 (some (.ref 6)) 0 12000 (startS w os) (topStub pw)).map (fun r => r.2.1) = some (finS w os) :=
  byRow2 "special-get-raises" (P := fun w => ∀ os, (segRunT treeTable pw w 11 (some (.ref 6)) 0 12000 (startS w os) (topStub pw)).map (fun r => r.2.1) = some (finS w os)) (fun w os => by rw [PySem.W.Fast.te10110043849684766642, PySem.W.Fast.te14364793385576792824]; exact congrFun (run_f w) os) (fun w os => by rw [PySem.W.Fast.te10110043849684766642, PySem.W.Fast.te14364793385576792824]; exact congrFun (run_t w) os) w
noncomputable abbrev CC := Cx pw KK
theorem fill : (PySem.Challenge.rw_nz0249_01 = PySem.Challenge.rw_nz0249_01) ∧ KK = KK := by k_fill; exact ⟨rfl, rfl⟩

theorem map_er0 {ws : List Value} (h : ws.map er = []) : ws = [] := by simpa using h
theorem map_er4 {ws : List Value} {a b c d : Value} (h : ws.map er = [a, b, c, d]) : ∃ u w x y, ws = [u, w, x, y] := by
  rcases ws with _ | ⟨u, _ | ⟨w, _ | ⟨x, _ | ⟨y, _ | ⟨z, r⟩⟩⟩⟩⟩ <;> simp at h
  exact ⟨u, w, x, y, rfl⟩
theorem map_er5 {ws : List Value} {a b c d e : Value} (h : ws.map er = [a, b, c, d, e]) : ∃ u w x y z, ws = [u, w, x, y, z] := by
  rcases ws with _ | ⟨u, _ | ⟨w, _ | ⟨x, _ | ⟨y, _ | ⟨z, _ | ⟨t, r⟩⟩⟩⟩⟩⟩ <;> simp at h
  exact ⟨u, w, x, y, z, rfl⟩
theorem map_er7 {ws : List Value} {a b c d e f g : Value} (h : ws.map er = [a, b, c, d, e, f, g]) : ∃ u w x y z p q, ws = [u, w, x, y, z, p, q] := by
  rcases ws with _ | ⟨u, _ | ⟨w, _ | ⟨x, _ | ⟨y, _ | ⟨z, _ | ⟨p, _ | ⟨q, _ | ⟨t, r⟩⟩⟩⟩⟩⟩⟩⟩ <;> simp at h
  exact ⟨u, w, x, y, z, p, q, rfl⟩
theorem binds0 {fd : FuncData} {names : List Str} {args : List Value} (he : args = []) (h : bindArgs fd ⟨[], []⟩ = pure (names.zip [])) : ∀ ws : List Value, ws.map er = args → bindArgs fd ⟨ws, []⟩ = pure (names.zip ws) := by
  intro ws hw; subst he; rw [map_er0 hw]; exact h
theorem binds1 {fd : FuncData} {names : List Str} {a : Value} {args : List Value} (he : args = [a]) (h : ∀ u, bindArgs fd ⟨[u], []⟩ = pure (names.zip [u])) : ∀ ws : List Value, ws.map er = args → bindArgs fd ⟨ws, []⟩ = pure (names.zip ws) := by
  intro ws hw; subst he; obtain ⟨u, rfl, _⟩ := map_er1 hw; exact h u
theorem binds2 {fd : FuncData} {names : List Str} {a b : Value} {args : List Value} (he : args = [a, b]) (h : ∀ u v, bindArgs fd ⟨[u, v], []⟩ = pure (names.zip [u, v])) : ∀ ws : List Value, ws.map er = args → bindArgs fd ⟨ws, []⟩ = pure (names.zip ws) := by
  intro ws hw; subst he; obtain ⟨u, v, rfl, _⟩ := map_er2 hw; exact h u v
theorem binds3 {fd : FuncData} {names : List Str} {a b c : Value} {args : List Value} (he : args = [a, b, c]) (h : ∀ u v w, bindArgs fd ⟨[u, v, w], []⟩ = pure (names.zip [u, v, w])) : ∀ ws : List Value, ws.map er = args → bindArgs fd ⟨ws, []⟩ = pure (names.zip ws) := by
  intro ws hw; subst he; obtain ⟨u, v, w, rfl, _⟩ := map_er3 hw; exact h u v w
theorem binds4 {fd : FuncData} {names : List Str} {a b c d : Value} {args : List Value} (he : args = [a, b, c, d]) (h : ∀ u v w x, bindArgs fd ⟨[u, v, w, x], []⟩ = pure (names.zip [u, v, w, x])) : ∀ ws : List Value, ws.map er = args → bindArgs fd ⟨ws, []⟩ = pure (names.zip ws) := by
  intro ws hw; subst he; obtain ⟨u, v, w, x, rfl⟩ := map_er4 hw; exact h u v w x
theorem binds5 {fd : FuncData} {names : List Str} {a b c d e : Value} {args : List Value} (he : args = [a, b, c, d, e]) (h : ∀ u v w x y, bindArgs fd ⟨[u, v, w, x, y], []⟩ = pure (names.zip [u, v, w, x, y])) : ∀ ws : List Value, ws.map er = args → bindArgs fd ⟨ws, []⟩ = pure (names.zip ws) := by
  intro ws hw; subst he; obtain ⟨u, v, w, x, y, rfl⟩ := map_er5 hw; exact h u v w x y
theorem binds7 {fd : FuncData} {names : List Str} {a b c d e f g : Value} {args : List Value} (he : args = [a, b, c, d, e, f, g]) (h : ∀ u v w x y p q, bindArgs fd ⟨[u, v, w, x, y, p, q], []⟩ = pure (names.zip [u, v, w, x, y, p, q])) : ∀ ws : List Value, ws.map er = args → bindArgs fd ⟨ws, []⟩ = pure (names.zip ws) := by
  intro ws hw; subst he; obtain ⟨u, v, w, x, y, p, q, rfl⟩ := map_er7 hw; exact h u v w x y p q

theorem DefOk.of' {K : Frag} {fa : Addr} {n : Nat} {names : List Str} {ns : List (Str × NameKind)} {body : List Stmt} {args : List Value} {o : Obj} {fd : FuncData}
    (h1 : K.lookup fa = some o) (h2 : o.data = .func fd) (h3 : fd.body = .stmts body) (hn : fd.params.args.map (·.arg) = names) (hs : fd.scope.names = ns) (h4 : codeIn K fd.code fd.qualname = true)
    (h5 : ∀ ws : List Value, ws.map er = args → bindArgs fd ⟨ws, []⟩ = pure (names.zip ws)) (h6 : distinct names = true) (h7 : (names.all fun x => ns.lookup x == some .local) = true)
    (h8 : (ns.all fun x => x.2 != .cell) = true) (h9 : fd.closure = []) (h10 : fd.scope.isCoroutine = false) (h11 : fd.scope.isGenerator = false) (h12 : fd.scope.kind = .function)
    (h14 : fd.globals = mainGlobals) (h15 : fd.builtins = builtinsNs) : DefOk K fa n names ns body args := by
  subst hs
  exact ⟨_, _, h1, h2, h3, h4, h5, h6, h7, h8, h9, h10, h11, h12, rfl, h14, h15⟩

theorem DefOkC.of' {K : Frag} {fa : Addr} {n : Nat} {names : List Str} {ns : List (Str × NameKind)} {body : List Stmt} {args : List Value} {o : Obj} {fd : FuncData}
    (h1 : K.lookup fa = some o) (h2 : o.data = .func fd) (h3 : fd.body = .stmts body) (hn : fd.params.args.map (·.arg) = names) (hs : fd.scope.names = ns) (h4 : codeIn K fd.code fd.qualname = true)
    (h5 : ∀ ws : List Value, ws.map er = args → bindArgs fd ⟨ws, []⟩ = pure (names.zip ws)) (h6 : distinct names = true) (h7 : (names.all fun x => ns.lookup x == some .local || ns.lookup x == some .cell) = true)
    (h8 : (ns.all fun x => x.2 != .free) = true) (h8' : distinct (ns.map (·.1)) = true) (h9 : fd.closure = []) (h10 : fd.scope.isCoroutine = false) (h11 : fd.scope.isGenerator = false) (h12 : fd.scope.kind = .function)
    (h14 : fd.globals = mainGlobals) (h15 : fd.builtins = builtinsNs) : DefOkC K fa n names ns body args := by
  subst hs
  exact ⟨_, _, h1, h2, h3, h4, h5, h6, h7, h8, h8', h9, h10, h11, h12, rfl, h14, h15⟩
theorem Cx.glob {prog : Program} {K : Params → Frag} (C : Cx prog K) {x : Str} {v : Value} (e : nsIn (K C.w.params) mainGlobals x = some (some v)) : C.mg x = some v := mg_of C.X C.g e
theorem Cx.noglob {prog : Program} {K : Params → Frag} (C : Cx prog K) {x : Str} (e : nsIn (K C.w.params) mainGlobals x = some none) : C.mg x = none := mg_none_of C.X C.g e
section
variable {prog : Program} {K : Params → Frag} {n : Nat} {ns : List (Str × NameKind)} {C : Cx prog K} {f : Fx n ns} {m : LM} {σ : Store}
theorem TE_globR {x : Str} {pos : Pos} {a : Addr} {Q : Value → LM → Store → Prop} (e : nsIn (K C.w.params) mainGlobals x = some (some (.ref a))) (h : Q (.ref a) m σ)
    (hl : ns.lookup x = some .globalImplicit := by rfl) (hd : (x == ("__debug__" : Str)) = false := by decide) : TE C f m σ (.Name x pos) Q := TE_global (C.glob e) h hl hd
theorem TE_bi {x : Str} {pos : Pos} {id : String} {Q : Value → LM → Store → Prop} (e : nsIn (K C.w.params) mainGlobals x = some none) (hv : bootBuiltins x = some (.builtin id)) (h : Q (.builtin id) m σ) (hnn : x ≠ "__name__" := by decide)
    (hl : ns.lookup x = some .globalImplicit := by rfl) (hd : (x == ("__debug__" : Str)) = false := by decide) : TE C f m σ (.Name x pos) Q := TE_builtin (C.noglob e) hv h hnn hl hd
theorem TE_ty {x : Str} {pos : Pos} {id : String} {Q : Value → LM → Store → Prop} (e : nsIn (K C.w.params) mainGlobals x = some none) (hv : bootBuiltins x = some (.type id)) (h : Q (.type id) m σ) (hnn : x ≠ "__name__" := by decide)
    (hl : ns.lookup x = some .globalImplicit := by rfl) (hd : (x == ("__debug__" : Str)) = false := by decide) : TE C f m σ (.Name x pos) Q := TE_builtin (C.noglob e) hv h hnn hl hd
end
theorem mulL {a b : Int} (h1 : -1000000 < a) (h2 : a < 1000000) : IntMulOk a b := IntMulOk.of_left (intBits_le_64 (by omega) (by omega))
theorem mulR {a b : Int} (h1 : -1000000 < b) (h2 : b < 1000000) : IntMulOk a b := IntMulOk.of_right (intBits_le_64 (by omega) (by omega))
structure MethOk (K' : Frag) (cl : Addr) (name : Str) (g : Addr) : Prop where
  pg : plainGet K' cl name = true
  fi : findIn K' (.ref cl) name = some (some (.ref g))
  fn : isFn K' (.ref g) = true
  kp : keepIn K' (.ref g) = true
section
variable {prog : Program} {K : Params → Frag} {n : Nat} {ns : List (Str × NameKind)} {C : Cx prog K} {f : Fx n ns} {m : LM} {σ : Store}
theorem iteT {c : Prop} [Decidable c] {P Q : Prop} (hc : c) (h : P) : if c then P else Q := by rw [if_pos hc]; exact h
theorem iteF {c : Prop} [Decidable c] {P Q : Prop} (hc : ¬ c) (h : Q) : if c then P else Q := by rw [if_neg hc]; exact h
noncomputable def ForU (C : Cx prog K) (f : Fx n ns) (x : Str) (body : List Stmt) (k : SK) (items : List Value) (Q : Flow → LM → Store → Prop) : List Value → LM → Store → Prop
  | [], m, σ => k.holds σ items ∧ Q .next m σ
  | v :: vs, m, σ => k.holds σ items ∧ TX C f ((x, v) :: m) σ (execs body f.env) (fun fl m' σ' => match fl with
      | .next | .cont => ForU C f x body k items Q vs m' σ'
      | .brk => Q .next m' σ'
      | .ret r => Q (.ret r) m' σ')
theorem ForU.holds {x : Str} {body : List Stmt} {k : SK} {items vs : List Value} {Q : Flow → LM → Store → Prop} (h : ForU C f x body k items Q vs m σ) : k.holds σ items := by
  cases vs <;> exact h.1
theorem TX_ForU {x : Str} {px pos : Pos} {iter : Expr} {body : List Stmt} {Q : Flow → LM → Store → Prop}
    (h : TE C f m σ iter (fun v m₁ σ₁ => ∃ (k : SK) (items : List Value), v = k.val ∧ ForU C f x body k items Q items m₁ σ₁))
    (hl : Stor C f x := by first | exact Stor_local (by rfl) | exact Stor_cell (by assumption) (by rfl)) (hs : ∀ x, foldedSetIterable iter f.env x = pure x := by intro _; rfl) :
    TX C f m σ (exec (.For (.Name x px) iter body [] pos) f.env) Q := by
  refine TX_For (TE.mono h fun v m₁ σ₁ ⟨k, items, e, q⟩ => ⟨k, items, fun i m₂ σ₂ => ForU C f x body k items Q (items.drop i) m₂ σ₂, e, q, fun i m₂ σ₂ q => q.holds, fun i v m₂ σ₂ hv q => ?_, fun m₂ σ₂ q => ?_⟩) hl hs
  · have hlt : i < items.length := (List.getElem?_eq_some_iff.mp hv).1
    have e : items.drop i = v :: items.drop (i + 1) := by rw [List.drop_eq_getElem_cons hlt, (List.getElem?_eq_some_iff.mp hv).2]
    replace q : ForU C f x body k items Q (items.drop i) m₂ σ₂ := q
    rw [e] at q
    exact TX.mono q.2 fun fl m₃ σ₃ q => by cases fl <;> exact q
  · replace q : ForU C f x body k items Q (items.drop items.length) m₂ σ₂ := q
    rw [List.drop_length] at q; exact q.2
theorem Fx.blk (f : Fx n ns) : f.env.blockKind = .function := by unfold Env.blockKind; rw [f.hk]; rfl
noncomputable def canonE (ns : List (Str × NameKind)) : Env := { scope := { (default : Scope) with kind := .function, names := ns }, locals := 0, globals := 0, cells := [] }
theorem swap_of {f : Fx n ns} {ts : List Expr} {v : Expr} {r : Sem (Option (List Str))} (h : swappedStores ts v (canonE ns) = r) : swappedStores ts v f.env = r := by
  have hk : f.env.kindOf = (canonE ns).kindOf := funext fun x => congrArg (List.lookup x) f.hns
  have hb : f.env.blockKind = (canonE ns).blockKind := f.blk
  rw [← h]
  delta swappedStores
  rw [hk, hb]
theorem Seq_next {rest : List Stmt} {Q : Flow → LM → Store → Prop} (h : TX C f m σ (execs rest f.env) Q) : Seq C f rest Q .next m σ := h
theorem Seq_ret {rest : List Stmt} {v : Value} {Q : Flow → LM → Store → Prop} (h : Q (.ret v) m σ) : Seq C f rest Q (.ret v) m σ := h
theorem TE_MethV {o : Expr} {name : Str} {apos pos : Pos} {es : List Expr} {x cl dx g : Addr} {fs : List (Str × Value)} {pl : Sem Bool} {Q : Value → LM → Store → Prop}
    (hx : σ x = some (.inst cl dx)) (hd : σ dx = some (.dict fs)) (hf : fs.lookup name = none) (ok : MethOk (K C.w.params) cl name g)
    (ho : TE C f m σ o (fun ov m₁ σ₁ => ov = .ref x ∧ m₁ = m ∧ σ₁ = σ))
    (h : TArgs C f m σ pos es (fun vs m₂ σ₂ => CallV C f m₂ σ₂ (.ref g) (.ref x :: vs) Q))
    (he : eval (.Call (.Attribute o name apos) es [] pos) f.env = (do
      let ov ← eval o f.env
      standAt apos.atName
      let (f', first) ← holding [ov] (getMethod ov name pl)
      callWith pos f' first (backTo pos (starEach es f.env)) []) := by rfl)
    (hp : ((backTo pos (starEach es f.env)).any (·.1)) = false := by rfl) : TE C f m σ (.Call (.Attribute o name apos) es [] pos) Q :=
  TE_Meth (TE.mono ho fun ov m₁ σ₁ ⟨e1, e2, e3⟩ => by subst e2 e3; exact ⟨x, cl, dx, fs, g, e1, hx, hd, hf, ok.pg, ok.fi, ok.fn, ok.kp, h⟩) he hp
end
theorem callBi {K : Frag} {s : String} {P : Prop} (h : P) : Callable K (.builtin s) ∧ P := ⟨Callable.bi, h⟩
theorem callTy {K : Frag} {s : String} {P : Prop} (h : P) : Callable K (.type s) ∧ P := ⟨Callable.ty, h⟩
theorem callFn {K : Frag} {a : Addr} {P : Prop} (hk : keepIn K (.ref a) = true) (h : P) : Callable K (.ref a) ∧ P := ⟨Callable.fn hk, h⟩
theorem exB {b : Bool} {Q : Bool → Prop} (h : Q b) : ∃ c, Value.bool b = Value.bool c ∧ Q c := ⟨_, rfl, h⟩
theorem exI {b : Int} {Q : Int → Prop} (h : Q b) : ∃ c, I b = I c ∧ Q c := ⟨_, rfl, h⟩
def tacs (s : Lean.Syntax) : List (Lean.TSyntax `tactic) := (s[1].getArgs.map fun x => ⟨x[1][0][0][0]⟩).toList
def words (s : String) : List Nat := (s.splitOn " ").map String.toNat!
local macro_rules | `(tactic| walk_at "dx") => do
  let b ← ["7", "5", "4", "3", "2", "1", "0"].foldlM (fun (z : Lean.TSyntax `tactic) s => `(tactic| first | exact $(Lean.mkIdent (.mkSimple ("binds" ++ s))) rfl (by intros; rfl) | $z:tactic)) (← `(tactic| fail))
  let k := b :: tacs (← `(tactic| first | k_is | exact rfl | kernel_rfl | decide +kernel | dsimp only [List.map, List.zip, List.zipWith]))
  let y : Lean.TSyntax `tactic ← ["1 1", "2 2", "3 2", "17 2", "18 2", "4 3", "5 0", "6 4", "7 4", "8 4", "16 4", "9 2", "10 2", "11 2", "12 2", "14 2", "15 2"].foldrM (fun s (z : Lean.TSyntax `tactic) => do
    let n := words s
    `(tactic| ((try case $(Lean.mkIdent (.mkSimple s!"h{n[0]!}")):ident => $(k[n[1]!]!):tactic); $z:tactic))) k[5]!
  return y.raw
local macro_rules | `(tactic| walk_at "lk") => `(tactic| first | with_reducible assumption | rfl | (refine Eq.trans (lookup_cons_ne (by decide)) ?_; walk_at "lk"))
local macro_rules | `(tactic| walk_at "t") => do
  let k := tacs (← `(tactic| first | skip | (rfl) | (walk_at "lk") | (k_is) | (boot_by_name) | (decide) | (with_unfolding_all rfl) | (intro _ _ _; with_unfolding_all rfl) | (first | exact Stor_local (by rfl) | exact Stor_cell (by assumption) (by rfl)) | (first | exact mulL (by omega) (by omega) | exact mulR (by omega) (by omega)) | (first | decide | omega) | ((with_reducible first | show TB _ _ _ _ (Expr.Name _ _) _ | show TB _ _ _ _ (Expr.Call _ _ _ _) _); refine TB_plain ?_)))
  let e ← `(term| ?_)
  let y : Lean.TSyntax `tactic ← ("TX_cons 0;TX_nil 0;TX_Return 0;TX_If 0;TE_int 0;TE_str 0;TE_none 0;TE_boolc 0;TE_BinOp 0;TE_IfExp 0;TE_Tuple 0;TE_List 0;TArgs_nil 0;Op2_add 0;Op2_sub 0;Seq_next 0;Seq_ret 0;TB_not 0;TB_and 0;TB_or 0;TB_and_nil 0;TB_or_nil 0;TE_Not 0;TE_Neg 0;TE_BoolAnd 0;TE_BoolOr 0;TE_BoolOne 0;Op2_eqi 0;Op2_nei 0;Op2_lt 0;Op2_gt 0;Op2_ge 0;Op2_eqs 0;CallV_max2 0;CallV_min2 0;CallV_range1 0;CallV_range2 0;Op2_iadd 0;CallV_intI 0;CallV_intB 0;callBi 0;callTy 0;exB 0;exI 0;TX_Assign 0 8 1;TX_AssignAttr 0 1;TX_Expr 0 1;TE_local 2 0 1 5;TE_cell 2 0 1 5;TE_globR 3 0 1 5;TE_bi 3 4 0 5 1 5;TE_ty 3 4 0 5 1 5;TE_Compare 0 6;TArgs_cons 0 1;TE_Call 0 1 1;callFn 3 0;Op2_mul 9 0;TX_Aug 2 0 1;TB_Compare 0 6;Op2_mod 10 0;CallV_range3 10 10 0;TX_AssignSub 0 1;TE_Sub 0 7".splitOn ";").foldrM (init := k[11]!) fun s (z : Lean.TSyntax `tactic) => do
    let w := s.splitOn " "
    let a := (w.drop 1).map String.toNat!
    let v (i : Nat) := Lean.mkIdent (.mkSimple s!"h{i}")
    let es ← a.zipIdx.toArray.mapM fun (j, i) => if j == 0 then pure e else `(term| ?$(v i):ident)
    let y ← (a.zipIdx.filter fun q => q.1 != 0).foldrM (init := k[0]!) fun (j, i) (y : Lean.TSyntax `tactic) => `(tactic| ((case $(v i):ident => $(k[j]!):tactic); $y:tactic))
    `(tactic| first | ((with_reducible refine' $(Lean.mkIdent (.mkSimple w.head!)) $es*); $y:tactic) | $z:tactic)
  return y.raw

set_option maxHeartbeats 400000 in
theorem parts_spec {C : CC} {i j : Int} (hj : 0 < j) (hj' : j < 1073741824) (σ : Store) : Spec C 1 (.ref 65) [I i, I j] σ (fun v σ' => v = I ((i + j - 1).fdiv j) ∧ σ' = σ) := by
  refine' Spec_def (body := _ :: _) (DefOk.of' (names := [_, _]) (ns := [_, _]) ?h1 ?h2 ?h3 ?h17 ?h18 ?h4 ?h5 ?h6 ?h7 ?h8 ?h9 ?h10 ?h11 ?h12 ?h14 ?h15) ?_
  walk_at "dx"
  intro f
  repeat walk_at "t"
  refine Op2_floordiv hj hj' ?_
  exact ⟨rfl, rfl⟩

structure Cmp where
  id : Int
  ac : Int
  dn : Int
  qt : Int
structure Frm where
  h : Int
  w : Int
  cs : List Cmp
noncomputable def cmpFields (c : Cmp) : List (Str × Value) := [(Str.ofString "quant", I c.qt), (Str.ofString "down", I c.dn), (Str.ofString "across", I c.ac), (Str.ofString "ident", I c.id)]
noncomputable def CmpAt (σ : Store) (a : Addr) (c : Cmp) : Prop := ∃ dx, σ a = some (.inst 82 dx) ∧ σ dx = some (.dict (cmpFields c))
noncomputable def CmpsAt (σ : Store) (vs : List Value) (cs : List Cmp) : Prop := vs.length = cs.length ∧ ∀ (i : Nat) (v : Value) (c : Cmp), vs[i]? = some v → cs[i]? = some c → ∃ a, v = .ref a ∧ CmpAt σ a c
noncomputable def frmFields (F : Frm) (L : Addr) : List (Str × Value) := [(Str.ofString "n", I 2), (Str.ofString "components", .ref L), (Str.ofString "width", I F.w), (Str.ofString "height", I F.h), (Str.ofString "precision", I 8), (Str.ofString "kind", S (Str.ofString "progressive"))]
noncomputable def FrmAt (σ : Store) (a : Addr) (F : Frm) : Prop := ∃ dx L vs, σ a = some (.inst 148 dx) ∧ σ dx = some (.dict (frmFields F L)) ∧ σ L = some (.list .plain vs) ∧ CmpsAt σ vs F.cs
theorem CmpAt.ext {σ σ' : Store} {a : Addr} {c : Cmp} (h : CmpAt σ a c) (e : Ext σ σ') : CmpAt σ' a c := by
  obtain ⟨dx, h1, h2⟩ := h; exact ⟨dx, e _ _ h1, e _ _ h2⟩
theorem CmpsAt.ext {σ σ' : Store} {vs : List Value} {cs : List Cmp} (h : CmpsAt σ vs cs) (e : Ext σ σ') : CmpsAt σ' vs cs :=
  ⟨h.1, fun i v c h1 h2 => let ⟨a, e1, e2⟩ := h.2 i v c h1 h2; ⟨a, e1, e2.ext e⟩⟩
theorem FrmAt.ext {σ σ' : Store} {a : Addr} {F : Frm} (h : FrmAt σ a F) (e : Ext σ σ') : FrmAt σ' a F := by
  obtain ⟨dx, L, vs, h1, h2, h3, h4⟩ := h; exact ⟨dx, L, vs, e _ _ h1, e _ _ h2, e _ _ h3, h4.ext e⟩

noncomputable def maxOf (l : List Int) : Int := l.foldl max 0
theorem le_foldl_max (l : List Int) (b : Int) : b ≤ l.foldl max b ∧ ∀ x ∈ l, x ≤ l.foldl max b := by
  induction l generalizing b with
  | nil => simp
  | cons y l ih =>
    obtain ⟨h1, h2⟩ := ih (max b y)
    rw [List.foldl_cons]
    refine ⟨by omega, fun x hx => ?_⟩
    rcases List.mem_cons.mp hx with rfl | hx
    · omega
    · exact h2 x hx
theorem foldl_max_mem (l : List Int) (b : Int) : l.foldl max b = b ∨ l.foldl max b ∈ l := by
  induction l generalizing b with
  | nil => simp
  | cons y l ih =>
    rw [List.foldl_cons]
    rcases ih (max b y) with e | e
    · rw [e]
      by_cases h : b ≤ y
      · right; rw [show max b y = y by omega]; exact List.mem_cons_self
      · left; omega
    · right; exact List.mem_cons_of_mem _ e
theorem maxOf_is {l : List Int} {M : Int} (h0 : ∀ x ∈ l, 0 < x) (hm : M ∈ l) (hb : ∀ x ∈ l, x ≤ M) : M = maxOf l := by
  obtain ⟨_, h2⟩ := le_foldl_max l 0
  have h3 := h2 M hm
  rcases foldl_max_mem l 0 with e | e
  · have := h0 M hm; unfold maxOf; omega
  · have := hb _ e; unfold maxOf; omega

structure FrmOk (F : Frm) : Prop where
  ne : F.cs ≠ []
  few : F.cs.length ≤ 2
  ac : ∀ c ∈ F.cs, 1 ≤ c.ac ∧ c.ac ≤ 2
  dn : ∀ c ∈ F.cs, 1 ≤ c.dn ∧ c.dn ≤ 2
  h : 0 ≤ F.h ∧ F.h ≤ 8
  w : 0 ≤ F.w ∧ F.w ≤ 8
noncomputable def maxA (F : Frm) : Int := maxOf (F.cs.map (·.ac))
noncomputable def maxD (F : Frm) : Int := maxOf (F.cs.map (·.dn))
theorem maxOf_bd {l : List Int} (hne : l ≠ []) (h : ∀ x ∈ l, 1 ≤ x ∧ x ≤ 2) : 1 ≤ maxOf l ∧ maxOf l ≤ 2 := by
  obtain ⟨_, h2⟩ := le_foldl_max l 0
  obtain ⟨x, hx⟩ := List.exists_mem_of_ne_nil l hne
  have a1 := h2 x hx
  have a2 := (h x hx).1
  unfold maxOf
  refine ⟨by omega, ?_⟩
  rcases foldl_max_mem l 0 with e | e
  · omega
  · exact (h _ e).2
theorem FrmOk.maxA {F : Frm} (o : FrmOk F) : 1 ≤ maxA F ∧ Mine.maxA F ≤ 2 := maxOf_bd (by simpa using o.ne) (by simpa using o.ac)
theorem FrmOk.maxD {F : Frm} (o : FrmOk F) : 1 ≤ maxD F ∧ Mine.maxD F ≤ 2 := maxOf_bd (by simpa using o.ne) (by simpa using o.dn)

theorem ao_components (C : CC) : AttrOk (KK C.w.params) 148 (Str.ofString "components") := ⟨by k_is, by k_is, by k_is⟩
theorem ao_across (C : CC) : AttrOk (KK C.w.params) 82 (Str.ofString "across") := ⟨by k_is, by k_is, by k_is⟩

theorem ao_width (C : CC) : AttrOk (KK C.w.params) 148 (Str.ofString "width") := ⟨by k_is, by k_is, by k_is⟩
theorem ao_height (C : CC) : AttrOk (KK C.w.params) 148 (Str.ofString "height") := ⟨by k_is, by k_is, by k_is⟩
theorem ao_kind (C : CC) : AttrOk (KK C.w.params) 148 (Str.ofString "kind") := ⟨by k_is, by k_is, by k_is⟩
theorem ao_precision (C : CC) : AttrOk (KK C.w.params) 148 (Str.ofString "precision") := ⟨by k_is, by k_is, by k_is⟩
theorem ao_n (C : CC) : AttrOk (KK C.w.params) 148 (Str.ofString "n") := ⟨by k_is, by k_is, by k_is⟩
theorem ao_down (C : CC) : AttrOk (KK C.w.params) 82 (Str.ofString "down") := ⟨by k_is, by k_is, by k_is⟩
theorem ao_ident (C : CC) : AttrOk (KK C.w.params) 82 (Str.ofString "ident") := ⟨by k_is, by k_is, by k_is⟩
theorem ao_quant (C : CC) : AttrOk (KK C.w.params) 82 (Str.ofString "quant") := ⟨by k_is, by k_is, by k_is⟩
theorem mo_most_across (C : CC) : MethOk (KK C.w.params) 148 (Str.ofString "most_across") 105 := ⟨by k_is, by k_is, by k_is, by k_is⟩
theorem mo_most_down (C : CC) : MethOk (KK C.w.params) 148 (Str.ofString "most_down") 110 := ⟨by k_is, by k_is, by k_is, by k_is⟩
theorem mo_mcus_across (C : CC) : MethOk (KK C.w.params) 148 (Str.ofString "mcus_across") 117 := ⟨by k_is, by k_is, by k_is, by k_is⟩
theorem mo_mcus_down (C : CC) : MethOk (KK C.w.params) 148 (Str.ofString "mcus_down") 124 := ⟨by k_is, by k_is, by k_is, by k_is⟩
theorem mo_plane_size (C : CC) : MethOk (KK C.w.params) 148 (Str.ofString "plane_size") 131 := ⟨by k_is, by k_is, by k_is, by k_is⟩
theorem mo_blocks (C : CC) : MethOk (KK C.w.params) 148 (Str.ofString "blocks") 138 := ⟨by k_is, by k_is, by k_is, by k_is⟩
theorem mo_padded (C : CC) : MethOk (KK C.w.params) 148 (Str.ofString "padded") 145 := ⟨by k_is, by k_is, by k_is, by k_is⟩
set_option maxHeartbeats 400000 in
theorem most_across_spec {C : CC} {σ : Store} {a : Addr} {F : Frm} (hF : FrmAt σ a F) (ok : FrmOk F) : Spec C 1 (.ref 105) [.ref a] σ (fun v σ' => v = I (maxA F) ∧ Ext σ σ') := by
  refine' Spec_def (body := _ :: _) (DefOk.of' (names := [_]) (ns := [_, _]) ?h1 ?h2 ?h3 ?h17 ?h18 ?h4 ?h5 ?h6 ?h7 ?h8 ?h9 ?h10 ?h11 ?h12 ?h14 ?h15) ?_
  walk_at "dx"
  intro f
  obtain ⟨dx, L, vs, h1, h2, h3, h4⟩ := hF
  repeat walk_at "t"
  refine TE_ListMap (fun _ i w _ => ∃ c, F.cs[i]? = some c ∧ w = I c.ac) F.cs.length (by have := ok.few; omega) (by exact ⟨rfl, rfl, rfl, rfl⟩) (by intro y hy; simp at hy) (by rfl) (fun _ _ _ _ _ _ h => h) ?_
  refine TE_AttrV h1 h2 rfl (ao_components C) (by intro _ q; cases q) ?_ (TE_local (by rfl) ⟨rfl, rfl, rfl⟩)
  refine ⟨rfl, Ext.refl _, .lst L, vs, rfl, ⟨_, h3⟩, h4.1, fun D hD => ⟨fun fc i v m₂ σ₂ hv hm hE _ => ?_, fun σ₂ ws hE hw hl hP => ?_⟩⟩
  · have hlt : i < F.cs.length := by rw [← h4.1]; exact (List.getElem?_eq_some_iff.mp hv).1
    obtain ⟨x, rfl, dc, k1, k2⟩ := h4.2 i v F.cs[i] hv (by simp [hlt])
    exact TE_AttrV (hE _ _ k1) (hE _ _ k2) rfl (ao_across C) (by intro _ q; cases q) ⟨rfl, Ext.refl _, F.cs[i], by simp [hlt], rfl⟩ (TE_local (by rfl) ⟨rfl, rfl, rfl⟩)
  · repeat walk_at "t"
    have e : ws = (F.cs.map (·.ac)).map I := by
      apply List.ext_getElem?
      intro i
      cases q : ws[i]? with
      | none =>
        have := List.getElem?_eq_none_iff.mp q
        rw [List.getElem?_eq_none_iff.mpr (by simp; omega)]
      | some w =>
        obtain ⟨c, hc, rfl⟩ := hP i w q
        simp [hc]
    refine CallV_maxL (is := F.cs.map (·.ac)) (by rw [← e]; exact hw) (by simpa using ok.ne) fun M hM hb => ?_
    have : M = maxA F := maxOf_is (fun x hx => by obtain ⟨c, hc, rfl⟩ := List.mem_map.mp hx; have := ok.ac c hc; omega) hM hb
    subst this
    exact ⟨rfl, hE⟩
set_option maxHeartbeats 400000 in
theorem most_down_spec {C : CC} {σ : Store} {a : Addr} {F : Frm} (hF : FrmAt σ a F) (ok : FrmOk F) : Spec C 1 (.ref 110) [.ref a] σ (fun v σ' => v = I (maxD F) ∧ Ext σ σ') := by
  refine' Spec_def (body := _ :: _) (DefOk.of' (names := [_]) (ns := [_, _]) ?h1 ?h2 ?h3 ?h17 ?h18 ?h4 ?h5 ?h6 ?h7 ?h8 ?h9 ?h10 ?h11 ?h12 ?h14 ?h15) ?_
  walk_at "dx"
  intro f
  obtain ⟨dx, L, vs, h1, h2, h3, h4⟩ := hF
  repeat walk_at "t"
  refine TE_ListMap (fun _ i w _ => ∃ c, F.cs[i]? = some c ∧ w = I c.dn) F.cs.length (by have := ok.few; omega) (by exact ⟨rfl, rfl, rfl, rfl⟩) (by intro y hy; simp at hy) (by rfl) (fun _ _ _ _ _ _ h => h) ?_
  refine TE_AttrV h1 h2 rfl (ao_components C) (by intro _ q; cases q) ?_ (TE_local (by rfl) ⟨rfl, rfl, rfl⟩)
  refine ⟨rfl, Ext.refl _, .lst L, vs, rfl, ⟨_, h3⟩, h4.1, fun D hD => ⟨fun fc i v m₂ σ₂ hv hm hE _ => ?_, fun σ₂ ws hE hw hl hP => ?_⟩⟩
  · have hlt : i < F.cs.length := by rw [← h4.1]; exact (List.getElem?_eq_some_iff.mp hv).1
    obtain ⟨x, rfl, dc, k1, k2⟩ := h4.2 i v F.cs[i] hv (by simp [hlt])
    exact TE_AttrV (hE _ _ k1) (hE _ _ k2) rfl (ao_down C) (by intro _ q; cases q) ⟨rfl, Ext.refl _, F.cs[i], by simp [hlt], rfl⟩ (TE_local (by rfl) ⟨rfl, rfl, rfl⟩)
  · repeat walk_at "t"
    have e : ws = (F.cs.map (·.dn)).map I := by
      apply List.ext_getElem?
      intro i
      cases q : ws[i]? with
      | none =>
        have := List.getElem?_eq_none_iff.mp q
        rw [List.getElem?_eq_none_iff.mpr (by simp; omega)]
      | some w =>
        obtain ⟨c, hc, rfl⟩ := hP i w q
        simp [hc]
    refine CallV_maxL (is := F.cs.map (·.dn)) (by rw [← e]; exact hw) (by simpa using ok.ne) fun M hM hb => ?_
    have : M = maxD F := maxOf_is (fun x hx => by obtain ⟨c, hc, rfl⟩ := List.mem_map.mp hx; have := ok.dn c hc; omega) hM hb
    subst this
    exact ⟨rfl, hE⟩

noncomputable def partsI (i j : Int) : Int := (i + j - 1).fdiv j
noncomputable def mcA (F : Frm) : Int := partsI F.w (2 * maxA F)
noncomputable def mcD (F : Frm) : Int := partsI F.h (2 * maxD F)
set_option maxHeartbeats 400000 in
theorem mcus_across_spec {C : CC} {σ : Store} {a : Addr} {F : Frm} (hF : FrmAt σ a F) (ok : FrmOk F) : Spec C 2 (.ref 117) [.ref a] σ (fun v σ' => v = I (mcA F) ∧ Ext σ σ') := by
  refine' Spec_def (body := _ :: _) (DefOk.of' (names := [_]) (ns := [_, _]) ?h1 ?h2 ?h3 ?h17 ?h18 ?h4 ?h5 ?h6 ?h7 ?h8 ?h9 ?h10 ?h11 ?h12 ?h14 ?h15) ?_
  walk_at "dx"
  intro f
  obtain ⟨dx, L, vs, h1, h2, h3, h4⟩ := hF
  have hb := ok.maxA
  repeat walk_at "t"
  refine TE_AttrV h1 h2 rfl (ao_width C) (by intro _ q; cases q) ?_ (TE_local (by rfl) ⟨rfl, rfl, rfl⟩)
  repeat walk_at "t"
  refine TE_AttrV h1 h2 rfl (ao_n C) (by intro _ q; cases q) ?_ (TE_local (by rfl) ⟨rfl, rfl, rfl⟩)
  refine TE_MethV h1 h2 rfl (mo_most_across C) (TE_local (by rfl) ⟨rfl, rfl, rfl⟩) ?_
  repeat walk_at "t"
  refine CallV_spec ((most_across_spec ⟨dx, L, vs, h1, h2, h3, h4⟩ ok).mono fun v σ' hq_ => ?_)
  obtain ⟨e, hE⟩ := hq_
  subst e
  repeat walk_at "t"
  refine CallV_spec ((parts_spec (by omega) (by omega) _).mono fun v σ'' hq_ => ?_)
  obtain ⟨e, e'⟩ := hq_
  subst e e'
  exact ⟨rfl, hE⟩

theorem partsI_bd {i j : Int} (hi : 0 ≤ i) (hj : 0 < j) : 0 ≤ partsI i j ∧ partsI i j ≤ i + j - 1 := by
  unfold partsI
  rw [Int.fdiv_eq_ediv_of_nonneg _ (by omega)]
  exact ⟨Int.ediv_nonneg (by omega) (by omega), Int.ediv_le_self _ (by omega)⟩
theorem FrmOk.mcA {F : Frm} (o : FrmOk F) : 0 ≤ mcA F ∧ Mine.mcA F ≤ 11 := by
  have h := o.maxA; have h2 := o.w
  have := partsI_bd (i := F.w) (j := 2 * Mine.maxA F) (by omega) (by omega)
  unfold Mine.mcA; omega
theorem FrmOk.mcD {F : Frm} (o : FrmOk F) : 0 ≤ mcD F ∧ Mine.mcD F ≤ 11 := by
  have h := o.maxD; have h2 := o.h
  have := partsI_bd (i := F.h) (j := 2 * Mine.maxD F) (by omega) (by omega)
  unfold Mine.mcD; omega
noncomputable def plW (F : Frm) (c : Cmp) : Int := partsI (F.w * c.ac) (maxA F)
noncomputable def plH (F : Frm) (c : Cmp) : Int := partsI (F.h * c.dn) (maxD F)

theorem CmpsAt.get {σ : Store} {vs : List Value} {cs : List Cmp} (h : CmpsAt σ vs cs) {p : Nat} {c : Cmp} (hp : cs[p]? = some c) : ∃ x dx, vs[p]? = some (.ref x) ∧ σ x = some (.inst 82 dx) ∧ σ dx = some (.dict (cmpFields c)) := by
  have hlt : p < vs.length := by rw [h.1]; exact (List.getElem?_eq_some_iff.mp hp).1
  obtain ⟨x, e, dx, h1, h2⟩ := h.2 p vs[p] c (by simp [hlt]) hp
  exact ⟨x, dx, by rw [← e]; simp [hlt], h1, h2⟩

theorem mul_bd {a b A B : Int} (h1 : 0 ≤ a) (h2 : a ≤ A) (h3 : 0 ≤ b) (h4 : b ≤ B) : 0 ≤ a * b ∧ a * b ≤ A * B :=
  ⟨Int.mul_nonneg h1 h3, Int.mul_le_mul h2 h4 h3 (by omega)⟩

set_option maxHeartbeats 400000 in
theorem mcus_down_spec {C : CC} {σ : Store} {a : Addr} {F : Frm} (hF : FrmAt σ a F) (ok : FrmOk F) : Spec C 2 (.ref 124) [.ref a] σ (fun v σ' => v = I (mcD F) ∧ Ext σ σ') := by
  refine' Spec_def (body := _ :: _) (DefOk.of' (names := [_]) (ns := [_, _]) ?h1 ?h2 ?h3 ?h17 ?h18 ?h4 ?h5 ?h6 ?h7 ?h8 ?h9 ?h10 ?h11 ?h12 ?h14 ?h15) ?_
  walk_at "dx"
  intro f
  obtain ⟨dx, L, vs, h1, h2, h3, h4⟩ := hF
  have hb := ok.maxD
  repeat walk_at "t"
  refine TE_AttrV h1 h2 rfl (ao_height C) (by intro _ q; cases q) ?_ (TE_local (by rfl) ⟨rfl, rfl, rfl⟩)
  repeat walk_at "t"
  refine TE_AttrV h1 h2 rfl (ao_n C) (by intro _ q; cases q) ?_ (TE_local (by rfl) ⟨rfl, rfl, rfl⟩)
  refine TE_MethV h1 h2 rfl (mo_most_down C) (TE_local (by rfl) ⟨rfl, rfl, rfl⟩) ?_
  repeat walk_at "t"
  refine CallV_spec ((most_down_spec ⟨dx, L, vs, h1, h2, h3, h4⟩ ok).mono fun v σ' hq_ => ?_)
  obtain ⟨e, hE⟩ := hq_
  subst e
  repeat walk_at "t"
  refine CallV_spec ((parts_spec (by omega) (by omega) _).mono fun v σ'' hq_ => ?_)
  obtain ⟨e, e'⟩ := hq_
  subst e e'
  exact ⟨rfl, hE⟩

set_option maxHeartbeats 400000 in
theorem padded_spec {C : CC} {σ : Store} {a : Addr} {F : Frm} {p : Nat} {c : Cmp} (hF : FrmAt σ a F) (ok : FrmOk F) (hp : F.cs[p]? = some c) :
    Spec C 3 (.ref 145) [.ref a, I p] σ (fun v σ' => ∃ t, v = .ref t ∧ σ' t = some (.tup [I (mcA F * c.ac), I (mcD F * c.dn)]) ∧ Ext σ σ') := by
  refine' Spec_def (body := _ :: _) (DefOk.of' (names := [_, _]) (ns := [_, _, _]) ?h1 ?h2 ?h3 ?h17 ?h18 ?h4 ?h5 ?h6 ?h7 ?h8 ?h9 ?h10 ?h11 ?h12 ?h14 ?h15) ?_
  walk_at "dx"
  intro f
  have hF' := hF
  obtain ⟨dx, L, vs, h1, h2, h3, h4⟩ := hF
  have hb := ok.maxA
  have hb' := ok.mcA
  have hb2 := ok.maxD
  have hb2' := ok.mcD
  have hlt := (List.getElem?_eq_some_iff.mp hp).1
  have hfew := ok.few
  obtain ⟨x, cx, k0, k1, k2⟩ := h4.get hp
  repeat walk_at "t"
  refine TE_AttrV h1 h2 rfl (ao_components C) (by intro _ q; cases q) ?_ (TE_local (by rfl) ⟨rfl, rfl, rfl⟩)
  repeat walk_at "t"
  refine ⟨L, p, .ref x, rfl, rfl, by omega, by omega, .inl ⟨_, vs, h3, by simpa using k0⟩, ?_⟩
  repeat walk_at "t"
  refine TE_MethV h1 h2 rfl (mo_mcus_across C) (TE_local (by rfl) ⟨rfl, rfl, rfl⟩) ?_
  repeat walk_at "t"
  refine CallV_spec ((mcus_across_spec hF' ok).mono fun v σ' hq_ => ?_)
  obtain ⟨e, hE⟩ := hq_
  subst e
  refine TE_AttrV (hE _ _ k1) (hE _ _ k2) rfl (ao_across C) (by intro _ q; cases q) ?_ (TE_local (by rfl) ⟨rfl, rfl, rfl⟩)
  repeat walk_at "t"
  refine TE_MethV (hE _ _ h1) (hE _ _ h2) rfl (mo_mcus_down C) (TE_local (by rfl) ⟨rfl, rfl, rfl⟩) ?_
  repeat walk_at "t"
  refine CallV_spec ((mcus_down_spec (hF'.ext hE) ok).mono fun v σ'' hq_ => ?_)
  obtain ⟨e, hE2⟩ := hq_
  subst e
  refine TE_AttrV (hE2 _ _ (hE _ _ k1)) (hE2 _ _ (hE _ _ k2)) rfl (ao_down C) (by intro _ q; cases q) ?_ (TE_local (by rfl) ⟨rfl, rfl, rfl⟩)
  repeat walk_at "t"
  refine ⟨by simp, fun t ht => ?_⟩
  exact ⟨t, rfl, upd_self .., (hE.trans hE2).thenNew ht⟩

set_option maxHeartbeats 400000 in
theorem plane_size_spec {C : CC} {σ : Store} {a : Addr} {F : Frm} {p : Nat} {c : Cmp} (hF : FrmAt σ a F) (ok : FrmOk F) (hp : F.cs[p]? = some c) :
    Spec C 3 (.ref 131) [.ref a, I p] σ (fun v σ' => ∃ t, v = .ref t ∧ σ' t = some (.tup [I (plW F c), I (plH F c)]) ∧ Ext σ σ') := by
  refine' Spec_def (body := _ :: _) (DefOk.of' (names := [_, _]) (ns := [_, _, _, _, _]) ?h1 ?h2 ?h3 ?h17 ?h18 ?h4 ?h5 ?h6 ?h7 ?h8 ?h9 ?h10 ?h11 ?h12 ?h14 ?h15) ?_
  walk_at "dx"
  intro f
  have hF' := hF
  obtain ⟨dx, L, vs, h1, h2, h3, h4⟩ := hF
  have hb := ok.maxA
  have hb2 := ok.maxD
  have hw := ok.w
  have hh := ok.h
  have hlt := (List.getElem?_eq_some_iff.mp hp).1
  have hfew := ok.few
  obtain ⟨x, cx, k0, k1, k2⟩ := h4.get hp
  repeat walk_at "t"
  refine TE_AttrV h1 h2 rfl (ao_components C) (by intro _ q; cases q) ?_ (TE_local (by rfl) ⟨rfl, rfl, rfl⟩)
  repeat walk_at "t"
  refine ⟨L, p, .ref x, rfl, rfl, by omega, by omega, .inl ⟨_, vs, h3, by simpa using k0⟩, ?_⟩
  repeat walk_at "t"
  refine TE_AttrV h1 h2 rfl (ao_width C) (by intro _ q; cases q) ?_ (TE_local (by rfl) ⟨rfl, rfl, rfl⟩)
  refine TE_AttrV k1 k2 rfl (ao_across C) (by intro _ q; cases q) ?_ (TE_local (by rfl) ⟨rfl, rfl, rfl⟩)
  repeat walk_at "t"
  refine TE_MethV h1 h2 rfl (mo_most_across C) (TE_local (by rfl) ⟨rfl, rfl, rfl⟩) ?_
  repeat walk_at "t"
  refine CallV_spec ((most_across_spec hF' ok).mono fun v σ' hq_ => ?_)
  obtain ⟨e, hE⟩ := hq_
  subst e
  repeat walk_at "t"
  refine CallV_spec ((parts_spec (by omega) (by omega) _).mono fun v σ'' hq_ => ?_)
  obtain ⟨e, e'⟩ := hq_
  subst e e'
  repeat walk_at "t"
  refine TE_AttrV (hE _ _ h1) (hE _ _ h2) rfl (ao_height C) (by intro _ q; cases q) ?_ (TE_local (by rfl) ⟨rfl, rfl, rfl⟩)
  refine TE_AttrV (hE _ _ k1) (hE _ _ k2) rfl (ao_down C) (by intro _ q; cases q) ?_ (TE_local (by rfl) ⟨rfl, rfl, rfl⟩)
  repeat walk_at "t"
  refine TE_MethV (hE _ _ h1) (hE _ _ h2) rfl (mo_most_down C) (TE_local (by rfl) ⟨rfl, rfl, rfl⟩) ?_
  repeat walk_at "t"
  refine CallV_spec ((most_down_spec (hF'.ext hE) ok).mono fun v σ2 hq_ => ?_)
  obtain ⟨e, hE2⟩ := hq_
  subst e
  repeat walk_at "t"
  refine CallV_spec ((parts_spec (by omega) (by omega) _).mono fun v σ3 hq_ => ?_)
  obtain ⟨e, e'⟩ := hq_
  subst e e'
  repeat walk_at "t"
  refine ⟨by simp, fun t ht => ?_⟩
  exact ⟨t, rfl, upd_self .., (hE.trans hE2).thenNew ht⟩

set_option maxHeartbeats 400000 in
theorem blocks_spec {C : CC} {σ : Store} {a : Addr} {F : Frm} {p : Nat} {c : Cmp} (hF : FrmAt σ a F) (ok : FrmOk F) (hp : F.cs[p]? = some c) :
    Spec C 4 (.ref 138) [.ref a, I p] σ (fun v σ' => ∃ t i j, v = .ref t ∧ σ' t = some (.tup [I i, I j]) ∧ Ext σ σ') := by
  refine' Spec_def (body := _ :: _) (DefOk.of' (names := [_, _]) (ns := [_, _, _, _, _]) ?h1 ?h2 ?h3 ?h17 ?h18 ?h4 ?h5 ?h6 ?h7 ?h8 ?h9 ?h10 ?h11 ?h12 ?h14 ?h15) ?_
  walk_at "dx"
  intro f
  have hF' := hF
  obtain ⟨dx, L, vs, h1, h2, h3, h4⟩ := hF
  refine TX_cons (TX_AssignTup2 (TE_MethV h1 h2 rfl (mo_plane_size C) (TE_local (by rfl) ⟨rfl, rfl, rfl⟩) ?_))
  repeat walk_at "t"
  refine CallV_spec ((plane_size_spec hF' ok hp).mono fun v σ' hq_ => ?_)
  obtain ⟨t, e, ht, hE⟩ := hq_
  refine ⟨t, _, _, e, ht, ?_⟩
  repeat walk_at "t"
  refine TE_AttrV (hE _ _ h1) (hE _ _ h2) rfl (ao_n C) (by intro _ q; cases q) ?_ (TE_local (by rfl) ⟨rfl, rfl, rfl⟩)
  repeat walk_at "t"
  refine CallV_spec ((parts_spec (by omega) (by omega) _).mono fun v σ3 hq_ => ?_)
  obtain ⟨e, e'⟩ := hq_
  subst e e'
  repeat walk_at "t"
  refine TE_AttrV (hE _ _ h1) (hE _ _ h2) rfl (ao_n C) (by intro _ q; cases q) ?_ (TE_local (by rfl) ⟨rfl, rfl, rfl⟩)
  repeat walk_at "t"
  refine CallV_spec ((parts_spec (by omega) (by omega) _).mono fun v σ3 hq_ => ?_)
  obtain ⟨e, e'⟩ := hq_
  subst e e'
  repeat walk_at "t"
  exact ⟨by simp, fun t' ht' => ⟨t', _, _, rfl, upd_self .., hE.thenNew ht'⟩⟩
theorem so82_ident (C : CC) : SetOk (KK C.w.params) 82 (Str.ofString "ident") := ⟨by k_is, by k_is, by k_is, by k_is⟩
theorem so82_across (C : CC) : SetOk (KK C.w.params) 82 (Str.ofString "across") := ⟨by k_is, by k_is, by k_is, by k_is⟩
theorem so82_down (C : CC) : SetOk (KK C.w.params) 82 (Str.ofString "down") := ⟨by k_is, by k_is, by k_is, by k_is⟩
theorem so82_quant (C : CC) : SetOk (KK C.w.params) 82 (Str.ofString "quant") := ⟨by k_is, by k_is, by k_is, by k_is⟩
theorem so148_kind (C : CC) : SetOk (KK C.w.params) 148 (Str.ofString "kind") := ⟨by k_is, by k_is, by k_is, by k_is⟩
theorem so148_precision (C : CC) : SetOk (KK C.w.params) 148 (Str.ofString "precision") := ⟨by k_is, by k_is, by k_is, by k_is⟩
theorem so148_height (C : CC) : SetOk (KK C.w.params) 148 (Str.ofString "height") := ⟨by k_is, by k_is, by k_is, by k_is⟩
theorem so148_width (C : CC) : SetOk (KK C.w.params) 148 (Str.ofString "width") := ⟨by k_is, by k_is, by k_is, by k_is⟩
theorem so148_components (C : CC) : SetOk (KK C.w.params) 148 (Str.ofString "components") := ⟨by k_is, by k_is, by k_is, by k_is⟩
theorem so148_n (C : CC) : SetOk (KK C.w.params) 148 (Str.ofString "n") := ⟨by k_is, by k_is, by k_is, by k_is⟩
theorem so181_many (C : CC) : SetOk (KK C.w.params) 181 (Str.ofString "many") := ⟨by k_is, by k_is, by k_is, by k_is⟩
theorem so181_planes (C : CC) : SetOk (KK C.w.params) 181 (Str.ofString "planes") := ⟨by k_is, by k_is, by k_is, by k_is⟩
theorem clsOk82 (C : CC) : ClsOk (KK C.w.params) 82 79 := ⟨by k_is, by k_is, by k_is⟩
theorem clsOk148 (C : CC) : ClsOk (KK C.w.params) 148 100 := ⟨by k_is, by k_is, by k_is⟩
theorem clsOk181 (C : CC) : ClsOk (KK C.w.params) 181 164 := ⟨by k_is, by k_is, by k_is⟩

theorem upd_upd (σ : Store) (a : Addr) (o p : AObj) : upd (upd σ a o) a p = upd σ a p := by
  funext b; unfold upd; by_cases h : b = a <;> simp [h]
section
variable {prog : Program} {K : Params → Frag} {n : Nat} {ns : List (Str × NameKind)} {C : Cx prog K} {f : Fx n ns} {m : LM} {σ : Store}
theorem TX_SetSelf {o value : Expr} {name : Str} {pos' pos : Pos} {x cl dx : Addr} {fs : List (Str × Value)} {v : Value} {Q : Flow → LM → Store → Prop}
    (hx : σ x = some (.inst cl dx)) (hd : σ dx = some (.dict fs)) (hz : fs.length ≤ 100) (ok : SetOk (K C.w.params) cl name)
    (hv : TE C f m σ value (fun w m₁ σ₁ => w = v ∧ m₁ = m ∧ σ₁ = σ)) (ho : TE C f m σ o (fun w m₁ σ₁ => w = .ref x ∧ m₁ = m ∧ σ₁ = σ))
    (h : Q .next m (upd σ dx (.dict ((name, v) :: fs))))
    (hs : swapsWith value (some (.Attribute o name pos')) pos.line f.env = pure false := by rfl) : TX C f m σ (exec (.Assign [.Attribute o name pos'] value pos) f.env) Q :=
  TX_AssignAttr (TE.mono hv fun w m₁ σ₁ ⟨e1, e2, e3⟩ => by
    subst e1 e2 e3
    exact TE.mono ho fun w' m₂ σ₂ ⟨e1, e2, e3⟩ => by subst e1 e2 e3; exact ⟨x, cl, dx, fs, rfl, hx, hd, hz, ok, h⟩) hs
end

set_option maxHeartbeats 400000 in
theorem cmp_init_spec {C : CC} {σ : Store} {x dx : Addr} (id ac dn qt : Int) (hx : σ x = some (.inst 82 dx)) (hd : σ dx = some (.dict [])) (hne : x ≠ dx) :
    Spec C 1 (.ref 79) [.ref x, I id, I ac, I dn, I qt] σ (fun v σ' => v = .none ∧ σ' = upd σ dx (.dict (cmpFields ⟨id, ac, dn, qt⟩))) := by
  refine' Spec_def (body := _ :: _) (DefOk.of' (names := [_, _, _, _, _]) (ns := [_, _, _, _, _]) ?h1 ?h2 ?h3 ?h17 ?h18 ?h4 ?h5 ?h6 ?h7 ?h8 ?h9 ?h10 ?h11 ?h12 ?h14 ?h15) ?_
  walk_at "dx"
  intro f
  refine TX_cons (TX_SetSelf hx hd (by decide) (so82_ident C) (TE_local (by rfl) ⟨rfl, rfl, rfl⟩) (TE_local (by rfl) ⟨rfl, rfl, rfl⟩) ?_)
  refine Seq_next (TX_cons (TX_SetSelf ((upd_ne hne).trans hx) (upd_self ..) (by simp) (so82_across C) (TE_local (by rfl) ⟨rfl, rfl, rfl⟩) (TE_local (by rfl) ⟨rfl, rfl, rfl⟩) ?_))
  rw [upd_upd]
  refine Seq_next (TX_cons (TX_SetSelf ((upd_ne hne).trans hx) (upd_self ..) (by simp) (so82_down C) (TE_local (by rfl) ⟨rfl, rfl, rfl⟩) (TE_local (by rfl) ⟨rfl, rfl, rfl⟩) ?_))
  rw [upd_upd]
  refine Seq_next (TX_cons (TX_SetSelf ((upd_ne hne).trans hx) (upd_self ..) (by simp) (so82_quant C) (TE_local (by rfl) ⟨rfl, rfl, rfl⟩) (TE_local (by rfl) ⟨rfl, rfl, rfl⟩) ?_))
  rw [upd_upd]
  refine Seq_next (TX_nil ?_)
  exact ⟨rfl, rfl⟩

theorem cmp_new_spec {C : CC} {σ : Store} (id ac dn qt : Int) : Spec C 2 (.ref 82) [I id, I ac, I dn, I qt] σ (fun v σ' => ∃ x, v = .ref x ∧ CmpAt σ' x ⟨id, ac, dn, qt⟩ ∧ Ext σ σ') := by
  refine Spec_cls (clsOk82 C) fun x dx hx hdx hne => ?_
  refine (cmp_init_spec id ac dn qt (upd_self ..) ((upd_ne hne.symm).trans (upd_self ..)) hne).mono fun v σ' hq_ => ?_
  obtain ⟨e1, e2⟩ := hq_
  subst e1 e2
  refine ⟨rfl, x, rfl, ⟨dx, (upd_ne hne).trans (upd_self ..), upd_self ..⟩, ?_⟩
  refine Ext.own ?_ hdx
  exact Ext.own (Ext.new hdx) hx

set_option maxHeartbeats 400000 in
theorem frm_init_spec {C : CC} {σ : Store} {x dx L : Addr} (h w : Int) (cs : List Cmp) (hx : σ x = some (.inst 148 dx)) (hd : σ dx = some (.dict [])) (hne : x ≠ dx) :
    Spec C 1 (.ref 100) [.ref x, S (Str.ofString "progressive"), I 8, I h, I w, .ref L, I 2] σ (fun v σ' => v = .none ∧ σ' = upd σ dx (.dict (frmFields ⟨h, w, cs⟩ L))) := by
  refine' Spec_def (body := _ :: _) (DefOk.of' (names := [_, _, _, _, _, _, _]) (ns := [_, _, _, _, _, _, _]) ?h1 ?h2 ?h3 ?h17 ?h18 ?h4 ?h5 ?h6 ?h7 ?h8 ?h9 ?h10 ?h11 ?h12 ?h14 ?h15) ?_
  walk_at "dx"
  intro f
  refine TX_cons (TX_SetSelf hx hd (by decide) (so148_kind C) (TE_local (by rfl) ⟨rfl, rfl, rfl⟩) (TE_local (by rfl) ⟨rfl, rfl, rfl⟩) ?_)
  refine Seq_next (TX_cons (TX_SetSelf ((upd_ne hne).trans hx) (upd_self ..) (by simp) (so148_precision C) (TE_local (by rfl) ⟨rfl, rfl, rfl⟩) (TE_local (by rfl) ⟨rfl, rfl, rfl⟩) ?_))
  rw [upd_upd]
  refine Seq_next (TX_cons (TX_SetSelf ((upd_ne hne).trans hx) (upd_self ..) (by simp) (so148_height C) (TE_local (by rfl) ⟨rfl, rfl, rfl⟩) (TE_local (by rfl) ⟨rfl, rfl, rfl⟩) ?_))
  rw [upd_upd]
  refine Seq_next (TX_cons (TX_SetSelf ((upd_ne hne).trans hx) (upd_self ..) (by simp) (so148_width C) (TE_local (by rfl) ⟨rfl, rfl, rfl⟩) (TE_local (by rfl) ⟨rfl, rfl, rfl⟩) ?_))
  rw [upd_upd]
  refine Seq_next (TX_cons (TX_SetSelf ((upd_ne hne).trans hx) (upd_self ..) (by simp) (so148_components C) (TE_local (by rfl) ⟨rfl, rfl, rfl⟩) (TE_local (by rfl) ⟨rfl, rfl, rfl⟩) ?_))
  rw [upd_upd]
  refine Seq_next (TX_cons (TX_SetSelf ((upd_ne hne).trans hx) (upd_self ..) (by simp) (so148_n C) (TE_local (by rfl) ⟨rfl, rfl, rfl⟩) (TE_local (by rfl) ⟨rfl, rfl, rfl⟩) ?_))
  rw [upd_upd]
  refine Seq_next (TX_nil ?_)
  exact ⟨rfl, rfl⟩

theorem frm_new_spec {C : CC} {σ : Store} {L : Addr} {vs : List Value} (F : Frm) (hL : σ L = some (.list .plain vs)) (hcs : CmpsAt σ vs F.cs) :
    Spec C 2 (.ref 148) [S (Str.ofString "progressive"), I 8, I F.h, I F.w, .ref L, I 2] σ (fun v σ' => ∃ x, v = .ref x ∧ FrmAt σ' x F ∧ Ext σ σ') := by
  refine Spec_cls (clsOk148 C) fun x dx hx hdx hne => ?_
  refine (frm_init_spec F.h F.w F.cs (upd_self ..) ((upd_ne hne.symm).trans (upd_self ..)) hne).mono fun v σ' hq_ => ?_
  obtain ⟨e1, e2⟩ := hq_
  subst e1 e2
  have hE : Ext σ (upd (upd (upd σ dx (.dict [])) x (.inst 148 dx)) dx (.dict (frmFields F L))) := Ext.own (Ext.own (Ext.new hdx) hx) hdx
  exact ⟨rfl, x, rfl, ⟨dx, L, vs, (upd_ne hne).trans (upd_self ..), upd_self .., hE _ _ hL, hcs.ext hE⟩, hE⟩

noncomputable def zz : Nat → List Int
  | 0 => []
  | 1 => [0]
  | 2 => [0, 1, 2]
  | _ => [0, 1, 2, 3]
set_option maxHeartbeats 800000 in
theorem zigzag_spec {C : CC} {σ : Store} : Spec C 1 (.ref 192) [I 2] σ (fun v σ' => ∃ t, v = .ref t ∧ σ' t = some (.tup [I 0, I 1, I 2, I 3]) ∧ Ext σ σ') := by
  refine' Spec_def (body := _ :: _) (DefOk.of' (names := [_]) (ns := [_, _, _, _, _, _, _, _, _, _, _]) ?h1 ?h2 ?h3 ?h17 ?h18 ?h4 ?h5 ?h6 ?h7 ?h8 ?h9 ?h10 ?h11 ?h12 ?h14 ?h15) ?_
  walk_at "dx"
  intro f
  repeat walk_at "t"
  refine ⟨by simp, fun L hL => ?_⟩
  repeat walk_at "t"
  refine TX_For ?_
  repeat walk_at "t"
  intro R hR
  have hLR : L ≠ R := ne_new (upd_self σ L _) hR
  have hE0 : Ext σ (upd (upd σ L (.list .plain [])) R (.rng 0 (2 * 2 - 1) 1)) := (Ext.new hL).thenNew hR
  refine ⟨.rng R 0 (2 * 2 - 1) 1, [I 0, I 1, I 2], fun i m₂ σ₂ => m₂.lookup (Str.ofString "n") = some (I 2) ∧ m₂.lookup (Str.ofString "found") = some (.ref L) ∧ Ext σ σ₂ ∧ σ₂ L = some (.list .plain ((zz i).map I)) ∧ σ₂ R = some (.rng 0 (2 * 2 - 1) 1), rfl,
    ⟨rfl, rfl, hE0, (upd_ne hLR).trans (upd_self ..), upd_self ..⟩, fun i m₂ σ₂ q => ⟨q.2.2.2.2, rfl, rfl⟩, ?_, ?_⟩
  · rintro i v m₂ σ₂ hv ⟨e1, e2, hE, hL', hR'⟩
    have hi : i = 0 ∨ i = 1 ∨ i = 2 := by
      have := (List.getElem?_eq_some_iff.mp hv).1
      simp at this; omega
    rcases hi with rfl | rfl | rfl
    all_goals (simp only [List.getElem?_cons_zero, List.getElem?_cons_succ, Option.some.injEq] at hv; subst hv)
    · repeat walk_at "t"
      refine iteF (by decide) ?_
      repeat walk_at "t"
      intro A hA
      have hLA : L ≠ A := ne_new hL' hA
      have hRA : R ≠ A := ne_new hR' hA
      repeat walk_at "t"
      refine TX_ForU ?_
      repeat walk_at "t"
      refine ⟨.rng A _ _ _, [I 0], rfl, ⟨upd_self .., rfl, rfl⟩, ?_⟩
      refine TX_cons (TX_Expr (TE_append ?_))
      repeat walk_at "t"
      refine ⟨L, _, _, rfl, (upd_ne hLA).trans hL', ?_⟩
      repeat walk_at "t"
      refine CallV_append ((upd_ne hLA).trans hL') (by simp [zz]) ⟨rfl, ?_⟩
      repeat walk_at "t"
      refine ⟨⟨(upd_ne hLA.symm).trans (upd_self ..), rfl, rfl⟩, ?_⟩
      repeat walk_at "t"
      exact ⟨by walk_at "lk", by walk_at "lk", ((hE.thenNew hA)).own hL, upd_self .., (upd_ne hLR.symm).trans ((upd_ne hRA).trans hR')⟩
    · repeat walk_at "t"
      refine iteT (by decide) ?_
      repeat walk_at "t"
      intro A hA
      have hLA : L ≠ A := ne_new hL' hA
      have hRA : R ≠ A := ne_new hR' hA
      repeat walk_at "t"
      refine TX_ForU ?_
      repeat walk_at "t"
      refine ⟨.rng A _ _ _, [I 0, I 1], rfl, ⟨upd_self .., rfl, rfl⟩, ?_⟩
      refine TX_cons (TX_Expr (TE_append ?_))
      repeat walk_at "t"
      refine ⟨L, _, _, rfl, (upd_ne hLA).trans hL', ?_⟩
      repeat walk_at "t"
      refine CallV_append ((upd_ne hLA).trans hL') (by simp [zz]) ⟨rfl, ?_⟩
      repeat walk_at "t"
      refine ⟨⟨(upd_ne hLA.symm).trans (upd_self ..), rfl, rfl⟩, ?_⟩
      repeat walk_at "t"
      refine TE_append ?_
      repeat walk_at "t"
      refine ⟨L, _, _, rfl, upd_self .., ?_⟩
      repeat walk_at "t"
      refine CallV_append (upd_self ..) (by simp [zz]) ⟨rfl, ?_⟩
      rw [upd_upd]
      repeat walk_at "t"
      refine ⟨⟨(upd_ne hLA.symm).trans (upd_self ..), rfl, rfl⟩, ?_⟩
      repeat walk_at "t"
      exact ⟨by walk_at "lk", by walk_at "lk", ((hE.thenNew hA)).own hL, upd_self .., (upd_ne hLR.symm).trans ((upd_ne hRA).trans hR')⟩
    · repeat walk_at "t"
      refine iteF (by decide) ?_
      repeat walk_at "t"
      intro A hA
      have hLA : L ≠ A := ne_new hL' hA
      have hRA : R ≠ A := ne_new hR' hA
      repeat walk_at "t"
      refine TX_ForU ?_
      repeat walk_at "t"
      refine ⟨.rng A _ _ _, [I 1], rfl, ⟨upd_self .., rfl, rfl⟩, ?_⟩
      refine TX_cons (TX_Expr (TE_append ?_))
      repeat walk_at "t"
      refine ⟨L, _, _, rfl, (upd_ne hLA).trans hL', ?_⟩
      repeat walk_at "t"
      refine CallV_append ((upd_ne hLA).trans hL') (by simp [zz]) ⟨rfl, ?_⟩
      repeat walk_at "t"
      refine ⟨⟨(upd_ne hLA.symm).trans (upd_self ..), rfl, rfl⟩, ?_⟩
      repeat walk_at "t"
      exact ⟨by walk_at "lk", by walk_at "lk", ((hE.thenNew hA)).own hL, upd_self .., (upd_ne hLR.symm).trans ((upd_ne hRA).trans hR')⟩
  · rintro m₂ σ₂ ⟨e1, e2, hE, hL', hR'⟩
    repeat walk_at "t"
    refine CallV_tupL hL' (by simp [zz]) fun t ht => ?_
    repeat walk_at "t"
    exact ⟨t, rfl, upd_self .., hE.thenNew ht⟩

set_option maxHeartbeats 400000 in
theorem order_spec {C : CC} {σ : Store} : Spec C 2 (.ref 417) [I 2] σ (fun v σ' => ∃ t, v = .ref t ∧ σ' t = some (.tup [I 0, I 1, I 2, I 3]) ∧ Ext σ σ') := by
  refine' Spec_def (body := _ :: _) (DefOk.of' (names := [_]) (ns := [_, _, _]) ?h1 ?h2 ?h3 ?h17 ?h18 ?h4 ?h5 ?h6 ?h7 ?h8 ?h9 ?h10 ?h11 ?h12 ?h14 ?h15) ?_
  walk_at "dx"
  intro f
  repeat walk_at "t"
  refine iteF (by decide) ?_
  repeat walk_at "t"
  exact CallV_spec (zigzag_spec.mono fun v σ' q => q)

set_option maxHeartbeats 400000 in
theorem to_row_spec {C : CC} {σ : Store} {b : Addr} {r : Role} {v0 v1 v2 v3 : Value} (hb : σ b = some (.list r [v0, v1, v2, v3])) :
    Spec C 3 (.ref 422) [.ref b, I 2] σ (fun v σ' => ∃ c, v = .ref c ∧ σ' c = some (.list .plain [v0, v1, v2, v3]) ∧ Ext σ σ') := by
  refine' Spec_defC (body := _ :: _) (DefOkC.of' (names := [_, _]) (ns := [_, _, _]) ?h1 ?h2 ?h3 ?h17 ?h18 ?h4 ?h5 ?h6 ?h7 ?h8 ?h16 ?h9 ?h10 ?h11 ?h12 ?h14 ?h15) ?_
  walk_at "dx"
  intro f hO
  repeat walk_at "t"
  refine TE_ListMap (fun _ i w _ => [v0, v1, v2, v3][i]? = some w) 4 (by decide) (by exact ⟨rfl, rfl, rfl, rfl⟩) (by intro y hy; simp at hy; subst hy; exact ⟨_, rfl⟩) (by rfl) (fun _ _ _ _ _ _ h => h) ?_
  repeat walk_at "t"
  refine CallV_spec (order_spec.mono fun v σ₁ hq_ => ?_)
  obtain ⟨t, e, ht, hE⟩ := hq_
  refine ⟨rfl, hE, .tpl t, [I 0, I 1, I 2, I 3], e, ht, rfl, fun D hD => ⟨fun fc i v m₂ σ₂ hv hm hE2 _ => ?_, fun σ₂ ws hE2 hw hl hP => ?_⟩⟩
  · have hb2 := hE2 _ _ (hE _ _ hb)
    have hi : i = 0 ∨ i = 1 ∨ i = 2 ∨ i = 3 := by
      have := (List.getElem?_eq_some_iff.mp hv).1
      simp at this; omega
    refine TE_Sub (TE_cell (Eq.trans (lookup_cons_ne (by decide)) ((hm _ (by decide)).trans rfl)) ?_)
    repeat walk_at "t"
    rcases hi with rfl | rfl | rfl | rfl <;>
    · simp only [List.getElem?_cons_zero, List.getElem?_cons_succ, Option.some.injEq] at hv
      subst hv
      exact ⟨b, _, _, rfl, rfl, by decide, by decide, .inl ⟨r, _, hb2, rfl⟩, rfl, Ext.refl _, rfl⟩
  · have e : ws = [v0, v1, v2, v3] := by
      apply List.ext_getElem?
      intro i
      cases q : ws[i]? with
      | none =>
        have := List.getElem?_eq_none_iff.mp q
        rw [List.getElem?_eq_none_iff.mpr (by simp; omega)]
      | some w => exact (hP i w q).symm
    subst e
    exact ⟨D, rfl, hw, hE.trans hE2⟩

set_option maxHeartbeats 400000 in
theorem to_block_spec {C : CC} {σ : Store} {b : Addr} {r : Role} {v0 v1 v2 v3 : Value} (hb : σ b = some (.list r [v0, v1, v2, v3])) :
    Spec C 3 (.ref 429) [.ref b, I 2] σ (fun v σ' => ∃ c, v = .ref c ∧ σ' c = some (.list .plain [v0, v1, v2, v3]) ∧ Ext σ σ') := by
  refine' Spec_def (body := _ :: _) (DefOk.of' (names := [_, _]) (ns := [_, _, _, _, _, _]) ?h1 ?h2 ?h3 ?h17 ?h18 ?h4 ?h5 ?h6 ?h7 ?h8 ?h9 ?h10 ?h11 ?h12 ?h14 ?h15) ?_
  walk_at "dx"
  intro f
  repeat walk_at "t"
  refine ⟨by simp, fun Z hZ => ?_⟩
  repeat walk_at "t"
  refine Op2_mulL (upd_self ..) (by decide) (by decide) fun L hL => ?_
  have hLn : σ L = none := none_of (Ext.new hZ) hL
  repeat walk_at "t"
  refine TX_ForU ?_
  repeat walk_at "t"
  refine CallV_spec (order_spec.mono fun v σ₁ hq_ => ?_)
  obtain ⟨t, e, ht, hE⟩ := hq_
  have hb1 := hE _ _ (((Ext.new hZ).thenNew hL) _ _ hb)
  have hL1 := hE _ _ (upd_self ..)
  have hE1 : Ext σ σ₁ := ((Ext.new hZ).thenNew hL).trans hE
  have hLt : t ≠ L := ne_kind ht hL1 (by intro q; cases q)
  have hLb : b ≠ L := ne_new hb hLn
  refine ⟨.tpl t, [I 0, I 1, I 2, I 3], e, ht, ?_⟩
  repeat walk_at "t"
  refine ⟨b, _, v0, rfl, rfl, by decide, by decide, .inl ⟨r, _, hb1, rfl⟩, ?_⟩
  repeat walk_at "t"
  refine ⟨L, _, .plain, _, rfl, rfl, by decide, by decide, hL1, by simp, ?_⟩
  repeat walk_at "t"
  refine ⟨(upd_ne hLt).trans ht, ?_⟩
  repeat walk_at "t"
  refine ⟨b, _, v1, rfl, rfl, by decide, by decide, .inl ⟨r, _, (upd_ne hLb).trans hb1, rfl⟩, ?_⟩
  repeat walk_at "t"
  refine ⟨L, _, .plain, _, rfl, rfl, by decide, by decide, upd_self .., by simp, ?_⟩
  rw [upd_upd]
  repeat walk_at "t"
  refine ⟨(upd_ne hLt).trans ht, ?_⟩
  repeat walk_at "t"
  refine ⟨b, _, v2, rfl, rfl, by decide, by decide, .inl ⟨r, _, (upd_ne hLb).trans hb1, rfl⟩, ?_⟩
  repeat walk_at "t"
  refine ⟨L, _, .plain, _, rfl, rfl, by decide, by decide, upd_self .., by simp, ?_⟩
  rw [upd_upd]
  repeat walk_at "t"
  refine ⟨(upd_ne hLt).trans ht, ?_⟩
  repeat walk_at "t"
  refine ⟨b, _, v3, rfl, rfl, by decide, by decide, .inl ⟨r, _, (upd_ne hLb).trans hb1, rfl⟩, ?_⟩
  repeat walk_at "t"
  refine ⟨L, _, .plain, _, rfl, rfl, by decide, by decide, upd_self .., by simp, ?_⟩
  rw [upd_upd]
  repeat walk_at "t"
  refine ⟨(upd_ne hLt).trans ht, ?_⟩
  repeat walk_at "t"
  exact ⟨L, rfl, upd_self .., hE1.own hLn⟩

theorem iteB {b : Bool} {P Q : Prop} (h1 : b = true → P) (h2 : b = false → Q) : if b = true then P else Q := by
  cases b
  · simpa using h2 rfl
  · simpa using h1 rfl
noncomputable def swpL : List PyData := [.str (Str.ofString "left"), .str (Str.ofString "right"), .str (Str.ofString "swap"), .str (Str.ofString "cross")]
noncomputable def mirL : List PyData := [.str (Str.ofString "back"), .str (Str.ofString "right"), .str (Str.ofString "mirror"), .str (Str.ofString "cross")]
noncomputable def flpL : List PyData := [.str (Str.ofString "left"), .str (Str.ofString "back"), .str (Str.ofString "flip"), .str (Str.ofString "cross")]
noncomputable def wrdL : List PyData := [.str (Str.ofString "stay"), .str (Str.ofString "left"), .str (Str.ofString "back"), .str (Str.ofString "right"), .str (Str.ofString "mirror"), .str (Str.ofString "flip"), .str (Str.ofString "swap"), .str (Str.ofString "cross")]
noncomputable def inW (l : List PyData) (w : Str) : Bool := l.any fun y => PyData.eqv y (.str w)
theorem rd4 (C : CC) {a : Addr} {x y z u : Str} {i j k l : Tok} {n : Nat} (h : (KK C.w.params).lookup a = some { cls := .type "tuple", data := .seq #[.str x i, .str y j, .str z k, .str u l] n }) (σ : Store) :
    Rd C.top σ (.ref a) (.tuple [.str x, .str y, .str z, .str u]) := .top (.tuple (C.X _ _ h) rfl rfl (.cons (.str ..) (.cons (.str ..) (.cons (.str ..) (.cons (.str ..) .nil)))))
theorem rd_swp (C : CC) (σ : Store) : Rd C.top σ (.ref 431) (.tuple swpL) := rd4 C (by k_is) σ
theorem rd_mir (C : CC) (σ : Store) : Rd C.top σ (.ref 432) (.tuple mirL) := rd4 C (by k_is) σ
theorem rd_flp (C : CC) (σ : Store) : Rd C.top σ (.ref 433) (.tuple flpL) := rd4 C (by k_is) σ
theorem rd_wrd (C : CC) (σ : Store) : Rd C.top σ (.ref 430) (.tuple wrdL) :=
  .top (.tuple (C.X _ _ (by k_is)) rfl rfl (.cons (.str ..) (.cons (.str ..) (.cons (.str ..) (.cons (.str ..) (.cons (.str ..) (.cons (.str ..) (.cons (.str ..) (.cons (.str ..) .nil)))))))))
theorem lay_swp : PyData.canLayAll0 swpL = true := by decide +kernel
theorem lay_mir : PyData.canLayAll0 mirL = true := by decide +kernel
theorem lay_flp : PyData.canLayAll0 flpL = true := by decide +kernel
theorem lay_wrd : PyData.canLayAll0 wrdL = true := by decide +kernel
section
variable {n : Nat} {ns : List (Str × NameKind)} {C : CC} {f : Fx n ns} {m : LM} {σ : Store}
theorem Op2_inSwp {w : Str} {Q : Value → LM → Store → Prop} (hw : okData (.str w)) (h : Q (.bool (inW swpL w)) m σ) : Op2 C f m σ (compareOp .In) (S w) (.ref 431) Q := Op2_int (.str w) (rd_swp C σ) hw lay_swp h
theorem Op2_inMir {w : Str} {Q : Value → LM → Store → Prop} (hw : okData (.str w)) (h : Q (.bool (inW mirL w)) m σ) : Op2 C f m σ (compareOp .In) (S w) (.ref 432) Q := Op2_int (.str w) (rd_mir C σ) hw lay_mir h
theorem Op2_inFlp {w : Str} {Q : Value → LM → Store → Prop} (hw : okData (.str w)) (h : Q (.bool (inW flpL w)) m σ) : Op2 C f m σ (compareOp .In) (S w) (.ref 433) Q := Op2_int (.str w) (rd_flp C σ) hw lay_flp h
theorem Op2_ninWrd {w : Str} {Q : Value → LM → Store → Prop} (hw : okData (.str w)) (h : Q (.bool (!inW wrdL w)) m σ) : Op2 C f m σ (compareOp .NotIn) (S w) (.ref 430) Q := Op2_nint (.str w) (rd_wrd C σ) hw lay_wrd h
end
local macro_rules | `(tactic| walk_at "w") => `(tactic| first | refine Op2_inSwp (by assumption) ?_ | refine Op2_inMir (by assumption) ?_ | refine Op2_inFlp (by assumption) ?_)

noncomputable def tval (s mi fl : Bool) (r : List Int) (d a : Nat) : Int :=
  let v := if s then r.getD (a * 2 + d) 0 else r.getD (d * 2 + a) 0
  let v := if mi && a % 2 == 1 then -v else v
  if fl && d % 2 == 1 then -v else v
noncomputable def turn4 (w : Str) (r : List Int) : List Int :=
  let s := inW swpL w; let mi := inW mirL w; let fl := inW flpL w
  [tval s mi fl r 0 0, tval s mi fl r 0 1, tval s mi fl r 1 0, tval s mi fl r 1 1]
noncomputable def tvals (s mi fl : Bool) (r : List Int) : Nat → List Int
  | 0 => []
  | k + 1 => tvals s mi fl r k ++ [tval s mi fl r (k / 2) (k % 2)]

theorem tvals_len (s mi fl : Bool) (r : List Int) (k : Nat) : (tvals s mi fl r k).length = k := by
  induction k with
  | zero => rfl
  | succ k ih => rw [tvals, List.length_append, ih]; rfl
set_option maxHeartbeats 1000000 in
theorem turned_row_spec {C : CC} {σ : Store} {b : Addr} {ro : Role} {w : Str} {r : List Int} (hw : okData (.str w)) (hr : r.length = 4) (hb : σ b = some (.list ro (r.map I))) :
    Spec C 4 (.ref 447) [.ref b, S w, I 2] σ (fun v σ' => ∃ c, v = .ref c ∧ σ' c = some (.list .plain ((turn4 w r).map I)) ∧ Ext σ σ') := by
  match r, hr with
  | [r0, r1, r2, r3], _ =>
  refine' Spec_def (body := _ :: _) (DefOk.of' (names := [_, _, _]) (ns := [_, _, _, _, _, _, _, _, _, _, _, _, _, _]) ?h1 ?h2 ?h3 ?h17 ?h18 ?h4 ?h5 ?h6 ?h7 ?h8 ?h9 ?h10 ?h11 ?h12 ?h14 ?h15) ?_
  walk_at "dx"
  intro f
  refine TX_cons (TX_AssignSwap2 ?_ (swap_of (by rfl)))
  repeat walk_at "t"
  refine CallV_spec ((to_block_spec hb).mono fun v σ₁ hq_ => ?_)
  obtain ⟨B, e, hB, hE⟩ := hq_
  subst e
  repeat walk_at "t"
  refine ⟨by simp, fun L hL => ?_⟩
  repeat walk_at "t"
  refine ⟨by simp, fun tp htp => ?_⟩
  refine ⟨tp, _, _, rfl, upd_self .., ?_⟩
  have hLtp : L ≠ tp := ne_new (upd_self ..) htp
  have hBL : B ≠ L := ne_new hB hL
  have hBtp : B ≠ tp := ne_new ((upd_ne hBL).trans hB) htp
  have hE1 : Ext σ (upd (upd σ₁ L (.list .plain [])) tp (.tup [.ref B, .ref L])) := (hE.thenNew hL).thenNew htp
  have hLn : σ L = none := none_of hE hL
  generalize hσ₂ : upd (upd σ₁ L (.list .plain [])) tp (.tup [.ref B, .ref L]) = σ₂ at *
  have hB2 : σ₂ B = some (.list .plain [I r0, I r1, I r2, I r3]) := by rw [← hσ₂]; exact (upd_ne hBtp).trans ((upd_ne hBL).trans hB)
  have hL2 : σ₂ L = some (.list .plain []) := by rw [← hσ₂]; exact (upd_ne hLtp).trans (upd_self ..)
  clear hσ₂
  repeat walk_at "t"
  refine TX_For ?_
  repeat walk_at "t"
  intro R hR
  have hLR : L ≠ R := ne_new hL2 hR
  have hBR : B ≠ R := ne_new hB2 hR
  let Inv : Nat → LM → Store → Prop := fun k m₂ σ₃ => m₂.lookup (Str.ofString "n") = some (I 2) ∧ m₂.lookup (Str.ofString "found") = some (.ref L) ∧ m₂.lookup (Str.ofString "block") = some (.ref B) ∧ m₂.lookup (Str.ofString "word") = some (S w) ∧
    Ext σ σ₃ ∧ σ₃ L = some (.list .plain ((tvals (inW swpL w) (inW mirL w) (inW flpL w) [r0, r1, r2, r3] k).map I)) ∧ σ₃ B = some (.list .plain [I r0, I r1, I r2, I r3])
  refine ⟨.rng R 0 2 1, [I 0, I 1], fun i m₂ σ₃ => Inv (2 * i) m₂ σ₃ ∧ σ₃ R = some (.rng 0 2 1), rfl,
    ⟨⟨rfl, rfl, rfl, rfl, hE1.thenNew hR, (upd_ne hLR).trans hL2, (upd_ne hBR).trans hB2⟩, upd_self ..⟩, fun i m₂ σ₃ q => ⟨q.2, rfl, rfl⟩, ?_, ?_⟩
  · rintro i v m₂ σ₃ hv ⟨⟨e1, e2, e3, e4, hE3, hL3, hB3⟩, hR3⟩
    have hi : i < 2 := (List.getElem?_eq_some_iff.mp hv).1
    have hvi : v = I i := by
      rcases (show i = 0 ∨ i = 1 by omega) with rfl | rfl <;> simpa using hv.symm
    subst hvi
    repeat walk_at "t"
    refine TX_For ?_
    repeat walk_at "t"
    intro R2 hR2
    have hLR2 : L ≠ R2 := ne_new hL3 hR2
    have hBR2 : B ≠ R2 := ne_new hB3 hR2
    have hRR2 : R ≠ R2 := ne_new hR3 hR2
    refine ⟨.rng R2 0 2 1, [I 0, I 1], fun j m₃ σ₄ => Inv (2 * i + j) m₃ σ₄ ∧ m₃.lookup (Str.ofString "down") = some (I i) ∧ σ₄ R = some (.rng 0 2 1) ∧ σ₄ R2 = some (.rng 0 2 1), rfl,
      ⟨⟨by walk_at "lk", by walk_at "lk", by walk_at "lk", by walk_at "lk", hE3.thenNew hR2, (upd_ne hLR2).trans hL3, (upd_ne hBR2).trans hB3⟩, by walk_at "lk", (upd_ne hRR2).trans hR3, upd_self ..⟩, fun j m₃ σ₄ q => ⟨q.2.2.2, rfl, rfl⟩, ?_, ?_⟩
    · rintro j v m₃ σ₄ hv ⟨⟨f1, f2, f3, f4, hE4, hL4, hB4⟩, f5, hR4, hR24⟩
      have hj : j < 2 := (List.getElem?_eq_some_iff.mp hv).1
      have hvj : v = I j := by
        rcases (show j = 0 ∨ j = 1 by omega) with rfl | rfl <;> simpa using hv.symm
      subst hvj
      let G : Int → LM → Prop := fun x m₄ => m₄.lookup (Str.ofString "n") = some (I 2) ∧ m₄.lookup (Str.ofString "found") = some (.ref L) ∧ m₄.lookup (Str.ofString "block") = some (.ref B) ∧ m₄.lookup (Str.ofString "word") = some (S w) ∧
        m₄.lookup (Str.ofString "down") = some (I i) ∧ m₄.lookup (Str.ofString "across") = some (I j) ∧ m₄.lookup (Str.ofString "value") = some (I x)
      have hget : ∀ k : Nat, k < 4 → ([I r0, I r1, I r2, I r3] : List Value)[k]? = some (I ([r0, r1, r2, r3].getD k 0)) := by
        intro k hk
        rcases (show k = 0 ∨ k = 1 ∨ k = 2 ∨ k = 3 by omega) with rfl | rfl | rfl | rfl <;> rfl
      refine TX_cons (TX.mono (Q := fun fl m₄ σ₅ => fl = .next ∧ σ₅ = σ₄ ∧ G (if inW swpL w then [r0, r1, r2, r3].getD (j * 2 + i) 0 else [r0, r1, r2, r3].getD (i * 2 + j) 0) m₄) ?_ ?_)
      · repeat walk_at "t"
        walk_at "w"
        repeat walk_at "t"
        refine iteB (fun hb => ?_) (fun hb => ?_)
        · repeat walk_at "t"
          refine ⟨B, (j : Int) * 2 + i, I ([r0, r1, r2, r3].getD (j * 2 + i) 0), rfl, rfl, by omega, by omega, .inl ⟨_, _, hB4, ?_⟩, ?_⟩
          · rw [show ((j : Int) * 2 + (i : Int)).toNat = j * 2 + i by omega]
            exact hget _ (by omega)
          · exact ⟨rfl, rfl, by walk_at "lk", by walk_at "lk", by walk_at "lk", by walk_at "lk", by walk_at "lk", by walk_at "lk", by rw [hb]; exact lookup_cons_eq⟩
        · repeat walk_at "t"
          refine ⟨B, (i : Int) * 2 + j, I ([r0, r1, r2, r3].getD (i * 2 + j) 0), rfl, rfl, by omega, by omega, .inl ⟨_, _, hB4, ?_⟩, ?_⟩
          · rw [show ((i : Int) * 2 + (j : Int)).toNat = i * 2 + j by omega]
            exact hget _ (by omega)
          · exact ⟨rfl, rfl, by walk_at "lk", by walk_at "lk", by walk_at "lk", by walk_at "lk", by walk_at "lk", by walk_at "lk", by rw [hb]; exact lookup_cons_eq⟩
      rintro fl m₄ σ₅ ⟨rfl, rfl, g1, g2, g3, g4, g5, g6, g7⟩
      generalize hx0 : (if inW swpL w then [r0, r1, r2, r3].getD (j * 2 + i) 0 else [r0, r1, r2, r3].getD (i * 2 + j) 0) = x0 at *
      refine Seq_next (TX_cons (TX.mono (Q := fun fl m₅ σ₆ => fl = .next ∧ σ₆ = σ₅ ∧ G (if inW mirL w && j % 2 == 1 then -x0 else x0) m₅) ?_ ?_))
      · refine TX_If ?_
        repeat walk_at "t"
        walk_at "w"
        repeat walk_at "t"
        refine iteB (fun hb => ?_) (fun hb => ?_)
        · repeat walk_at "t"
          rcases (show j = 0 ∨ j = 1 by omega) with rfl | rfl
          · refine iteF (by decide) ?_
            refine iteF (by decide) ?_
            repeat walk_at "t"
            exact ⟨rfl, rfl, g1, g2, g3, g4, g5, g6, by rw [hb]; exact g7⟩
          · refine iteT (by decide) ?_
            repeat walk_at "t"
            refine iteT rfl ?_
            repeat walk_at "t"
            exact ⟨rfl, rfl, by walk_at "lk", by walk_at "lk", by walk_at "lk", by walk_at "lk", by walk_at "lk", by walk_at "lk", by rw [hb]; exact lookup_cons_eq⟩
        · refine iteF (by decide) ?_
          repeat walk_at "t"
          exact ⟨rfl, rfl, g1, g2, g3, g4, g5, g6, by rw [hb]; exact g7⟩
      rintro fl m₅ σ₆ ⟨rfl, rfl, k1, k2, k3, k4, k5, k6, k7⟩
      generalize hx1 : (if inW mirL w && j % 2 == 1 then -x0 else x0) = x1 at *
      refine Seq_next (TX_cons (TX.mono (Q := fun fl m₅ σ₇ => fl = .next ∧ σ₇ = σ₆ ∧ G (if inW flpL w && i % 2 == 1 then -x1 else x1) m₅) ?_ ?_))
      · refine TX_If ?_
        repeat walk_at "t"
        walk_at "w"
        repeat walk_at "t"
        refine iteB (fun hb => ?_) (fun hb => ?_)
        · repeat walk_at "t"
          rcases (show i = 0 ∨ i = 1 by omega) with rfl | rfl
          · refine iteF (by decide) ?_
            refine iteF (by decide) ?_
            repeat walk_at "t"
            exact ⟨rfl, rfl, k1, k2, k3, k4, k5, k6, by rw [hb]; exact k7⟩
          · refine iteT (by decide) ?_
            repeat walk_at "t"
            refine iteT rfl ?_
            repeat walk_at "t"
            exact ⟨rfl, rfl, by walk_at "lk", by walk_at "lk", by walk_at "lk", by walk_at "lk", by walk_at "lk", by walk_at "lk", by rw [hb]; exact lookup_cons_eq⟩
        · refine iteF (by decide) ?_
          repeat walk_at "t"
          exact ⟨rfl, rfl, k1, k2, k3, k4, k5, k6, by rw [hb]; exact k7⟩
      rintro fl m₆ σ₇ ⟨rfl, rfl, l1, l2, l3, l4, l5, l6, l7⟩
      refine Seq_next (TX_cons (TX_Expr (TE_append ?_)))
      repeat walk_at "t"
      refine ⟨L, _, _, rfl, hL4, ?_⟩
      repeat walk_at "t"
      refine CallV_append hL4 ?_ ⟨rfl, ?_⟩
      · rw [List.length_map, tvals_len]; omega
      · repeat walk_at "t"
        refine ⟨⟨l1, l2, l3, l4, hE4.own hLn, ?_, (upd_ne hBL).trans hB4⟩, l5, (upd_ne hLR.symm).trans hR4, (upd_ne hLR2.symm).trans hR24⟩
        rw [upd_self]
        show _ = some (AObj.list Role.plain ((tvals _ _ _ _ (2 * i + j + 1)).map I))
        rw [tvals, List.map_append, show (2 * i + j) / 2 = i by omega, show (2 * i + j) % 2 = j by omega]
        simp only [List.map_cons, List.map_nil, tval, hx0, hx1]
    · rintro m₃ σ₄ ⟨⟨f1, f2, f3, f4, hE4, hL4, hB4⟩, f5, hR4, hR24⟩
      exact Seq_next (TX_nil ⟨⟨f1, f2, f3, f4, hE4, hL4, hB4⟩, hR4⟩)
  · rintro m₂ σ₃ ⟨⟨e1, e2, e3, e4, hE3, hL3, hB3⟩, hR3⟩
    repeat walk_at "t"
    refine CallV_spec ((to_row_spec hL3).mono fun v σ₄ hq_ => ?_)
    obtain ⟨c, e, hc, hE4⟩ := hq_
    exact ⟨c, e, hc, hE3.trans hE4⟩

noncomputable def tplace (s mi fl : Bool) (x y a d : Int) : Int × Int :=
  let x' := if s then y else x
  let y' := if s then x else y
  let a' := if s then d else a
  let d' := if s then a else d
  (if mi then a' - 1 - x' else x', if fl then d' - 1 - y' else y')
noncomputable def placeW (w : Str) (x y a d : Int) : Int × Int := tplace (inW swpL w) (inW mirL w) (inW flpL w) x y a d

set_option maxHeartbeats 1000000 in
theorem turned_place_spec {C : CC} {σ : Store} {w : Str} {x y a d : Int} (hw : okData (.str w)) :
    Spec C 1 (.ref 454) [I x, I y, I a, I d, S w] σ (fun v σ' => ∃ t, v = .ref t ∧ σ' t = some (.tup [I (placeW w x y a d).1, I (placeW w x y a d).2]) ∧ Ext σ σ') := by
  refine' Spec_def (body := _ :: _) (DefOk.of' (names := [_, _, _, _, _]) (ns := [_, _, _, _, _, _, _, _]) ?h1 ?h2 ?h3 ?h17 ?h18 ?h4 ?h5 ?h6 ?h7 ?h8 ?h9 ?h10 ?h11 ?h12 ?h14 ?h15) ?_
  walk_at "dx"
  intro f
  let G : Int → Int → Int → Int → LM → Prop := fun x y a d m => m.lookup (Str.ofString "x") = some (I x) ∧ m.lookup (Str.ofString "y") = some (I y) ∧ m.lookup (Str.ofString "across") = some (I a) ∧ m.lookup (Str.ofString "down") = some (I d) ∧ m.lookup (Str.ofString "word") = some (S w)
  refine TX_cons (TX.mono (Q := fun fl m σ₁ => fl = .next ∧ Ext σ σ₁ ∧ G (if inW swpL w then y else x) (if inW swpL w then x else y) (if inW swpL w then d else a) (if inW swpL w then a else d) m) ?_ ?_)
  · refine TX_If ?_
    repeat walk_at "t"
    walk_at "w"
    repeat walk_at "t"
    refine iteB (fun hb => ?_) (fun hb => ?_)
    · refine TX_cons (TX_AssignSwap2 ?_ (swap_of (by rfl)))
      repeat walk_at "t"
      refine ⟨by simp, fun t ht => ⟨t, _, _, rfl, upd_self .., ?_⟩⟩
      refine Seq_next (TX_cons (TX_AssignSwap2 ?_ (swap_of (by rfl))))
      repeat walk_at "t"
      refine ⟨by simp, fun t' ht' => ⟨t', _, _, rfl, upd_self .., ?_⟩⟩
      repeat walk_at "t"
      rw [hb]
      exact ⟨rfl, (Ext.new ht).thenNew ht', rfl, rfl, rfl, rfl, rfl⟩
    · repeat walk_at "t"
      rw [hb]
      exact ⟨rfl, Ext.refl _, rfl, rfl, rfl, rfl, rfl⟩
  rintro fl m₁ σ₁ ⟨rfl, hE1, g1, g2, g3, g4, g5⟩
  dsimp only [placeW, tplace]
  generalize (if inW swpL w then y else x) = x1 at *
  generalize (if inW swpL w then x else y) = y1 at *
  generalize (if inW swpL w then d else a) = a1 at *
  generalize (if inW swpL w then a else d) = d1 at *
  refine Seq_next (TX_cons (TX.mono (Q := fun fl m σ₂ => fl = .next ∧ σ₂ = σ₁ ∧ G (if inW mirL w then a1 - 1 - x1 else x1) y1 a1 d1 m) ?_ ?_))
  · refine TX_If ?_
    repeat walk_at "t"
    walk_at "w"
    repeat walk_at "t"
    refine iteB (fun hb => ?_) (fun hb => ?_)
    · repeat walk_at "t"
      rw [hb]
      exact ⟨rfl, rfl, by walk_at "lk", by walk_at "lk", by walk_at "lk", by walk_at "lk", by walk_at "lk"⟩
    · repeat walk_at "t"
      rw [hb]
      exact ⟨rfl, rfl, g1, g2, g3, g4, g5⟩
  rintro fl m₂ σ₂ ⟨rfl, rfl, f1, f2, f3, f4, f5⟩
  generalize (if inW mirL w then a1 - 1 - x1 else x1) = x2 at *
  refine Seq_next (TX_cons (TX.mono (Q := fun fl m σ₃ => fl = .next ∧ σ₃ = σ₂ ∧ G x2 (if inW flpL w then d1 - 1 - y1 else y1) a1 d1 m) ?_ ?_))
  · refine TX_If ?_
    repeat walk_at "t"
    walk_at "w"
    repeat walk_at "t"
    refine iteB (fun hb => ?_) (fun hb => ?_)
    · repeat walk_at "t"
      rw [hb]
      exact ⟨rfl, rfl, by walk_at "lk", by walk_at "lk", by walk_at "lk", by walk_at "lk", by walk_at "lk"⟩
    · repeat walk_at "t"
      rw [hb]
      exact ⟨rfl, rfl, f1, f2, f3, f4, f5⟩
  rintro fl m₃ σ₃ ⟨rfl, rfl, e1, e2, e3, e4, e5⟩
  repeat walk_at "t"
  exact ⟨by simp, fun t ht => ⟨t, rfl, upd_self .., hE1.thenNew ht⟩⟩

set_option maxHeartbeats 400000 in
theorem unit_size_spec {C : CC} {σ : Store} {a : Addr} {F : Frm} (hF : FrmAt σ a F) (ok : FrmOk F) :
    Spec C 2 (.ref 461) [.ref a] σ (fun v σ' => ∃ t, v = .ref t ∧ σ' t = some (.tup [I (maxA F * 2), I (maxD F * 2)]) ∧ Ext σ σ') := by
  refine' Spec_def (body := _ :: _) (DefOk.of' (names := [_]) (ns := [_]) ?h1 ?h2 ?h3 ?h17 ?h18 ?h4 ?h5 ?h6 ?h7 ?h8 ?h9 ?h10 ?h11 ?h12 ?h14 ?h15) ?_
  walk_at "dx"
  intro f
  have hF' := hF
  obtain ⟨dx, L, vs, h1, h2, h3, h4⟩ := hF
  have hb := ok.maxA
  have hb2 := ok.maxD
  repeat walk_at "t"
  refine TE_MethV h1 h2 rfl (mo_most_across C) (TE_local (by rfl) ⟨rfl, rfl, rfl⟩) ?_
  repeat walk_at "t"
  refine CallV_spec ((most_across_spec hF' ok).mono fun v σ' hq_ => ?_)
  obtain ⟨e, hE⟩ := hq_
  subst e
  refine TE_AttrV (hE _ _ h1) (hE _ _ h2) rfl (ao_n C) (by intro _ q; cases q) ?_ (TE_local (by rfl) ⟨rfl, rfl, rfl⟩)
  repeat walk_at "t"
  refine TE_MethV (hE _ _ h1) (hE _ _ h2) rfl (mo_most_down C) (TE_local (by rfl) ⟨rfl, rfl, rfl⟩) ?_
  repeat walk_at "t"
  refine CallV_spec ((most_down_spec (hF'.ext hE) ok).mono fun v σ2 hq_ => ?_)
  obtain ⟨e, hE2⟩ := hq_
  subst e
  refine TE_AttrV (hE2 _ _ (hE _ _ h1)) (hE2 _ _ (hE _ _ h2)) rfl (ao_n C) (by intro _ q; cases q) ?_ (TE_local (by rfl) ⟨rfl, rfl, rfl⟩)
  repeat walk_at "t"
  exact ⟨by simp, fun t ht => ⟨t, rfl, upd_self .., (hE.trans hE2).thenNew ht⟩⟩

noncomputable def wholeW (F : Frm) (w : Str) : Bool :=
  let s := inW swpL w
  let ta := if s then inW flpL w else inW mirL w
  let td := if s then inW mirL w else inW flpL w
  !((ta && !decide (F.w.fmod (maxA F * 2) = 0)) || (td && !decide (F.h.fmod (maxD F * 2) = 0)))

set_option maxHeartbeats 1000000 in
theorem is_whole_spec {C : CC} {σ : Store} {a : Addr} {F : Frm} {w : Str} (hw : okData (.str w)) (hF : FrmAt σ a F) (ok : FrmOk F) :
    Spec C 3 (.ref 468) [.ref a, S w] σ (fun v σ' => v = .bool (wholeW F w) ∧ Ext σ σ') := by
  refine' Spec_def (body := _ :: _) (DefOk.of' (names := [_, _]) (ns := [_, _, _, _, _, _, _, _, _, _, _]) ?h1 ?h2 ?h3 ?h17 ?h18 ?h4 ?h5 ?h6 ?h7 ?h8 ?h9 ?h10 ?h11 ?h12 ?h14 ?h15) ?_
  walk_at "dx"
  intro f
  have hF' := hF
  obtain ⟨dx, L, vs, h1, h2, h3, h4⟩ := hF
  have hb := ok.maxA
  have hb2 := ok.maxD
  refine TX_cons (TX_AssignTup2 ?_)
  repeat walk_at "t"
  refine CallV_spec ((unit_size_spec hF' ok).mono fun v σ' hq_ => ?_)
  obtain ⟨t, e, ht, hE⟩ := hq_
  refine ⟨t, _, _, e, ht, ?_⟩
  repeat walk_at "t"
  walk_at "w"
  repeat walk_at "t"
  have h1' := hE _ _ h1
  have h2' := hE _ _ h2
  have hfin : ∀ b : Bool, b = (wholeW F w) → (retOf (Flow.ret (Value.bool b)) = Value.bool (wholeW F w) ∧ Ext σ σ') := fun b e => ⟨by rw [e]; rfl, hE⟩
  refine iteB (fun hs => ?_) (fun hs => ?_)
  all_goals (
    repeat walk_at "t"
    walk_at "w"
    repeat walk_at "t"
    first | refine iteT hs ?_ | refine iteF (by rw [hs]; decide) ?_
    repeat walk_at "t"
    walk_at "w"
    repeat walk_at "t"
    refine iteB (fun ha => ?_) (fun ha => ?_))
  all_goals first
    | (refine ⟨_, rfl, ?_⟩
       refine iteF (by decide) ?_
       have hm := ha)
    | (repeat walk_at "t"
       refine TE_AttrV h1' h2' rfl (ao_width C) (by intro _ q; cases q) ?_ (TE_local (by rfl) ⟨rfl, rfl, rfl⟩)
       repeat walk_at "t"
       refine iteB (fun hm => ?_) (fun hm => ?_))
  all_goals first
    | (refine ⟨_, rfl, ?_⟩
       exact hfin _ (by simp [wholeW, hs, ha, hm]))
    | (repeat walk_at "t"
       refine iteB (fun hd => ?_) (fun hd => ?_)
       · repeat walk_at "t"
         refine TE_AttrV h1' h2' rfl (ao_height C) (by intro _ q; cases q) ?_ (TE_local (by rfl) ⟨rfl, rfl, rfl⟩)
         repeat walk_at "t"
         exact hfin _ (by simp [wholeW, hs, ha, hm, hd])
       · exact ⟨_, rfl, hfin _ (by simp [wholeW, hs, ha, hm, hd])⟩)

noncomputable def turnC (s : Bool) (c : Cmp) : Cmp := ⟨c.id, if s then c.dn else c.ac, if s then c.ac else c.dn, c.qt⟩
noncomputable def turnF (F : Frm) (w : Str) : Frm := ⟨if inW swpL w then F.w else F.h, if inW swpL w then F.h else F.w, F.cs.map (turnC (inW swpL w))⟩
theorem CmpAt.updL {σ : Store} {K a : Addr} {c : Cmp} {r r' : Role} {vs vs' : List Value} (h : CmpAt σ a c) (hK : σ K = some (.list r vs)) : CmpAt (upd σ K (.list r' vs')) a c := by
  obtain ⟨dx, h1, h2⟩ := h
  exact ⟨dx, (upd_ne (ne_kind h1 hK (by intro q; cases q))).trans h1, (upd_ne (ne_kind h2 hK (by intro q; cases q))).trans h2⟩
theorem CmpsAt.add {σ : Store} {K x : Addr} {cs : List Cmp} {c : Cmp} {r r' : Role} {vs vs' ws : List Value} (h : CmpsAt σ ws cs) (hx : CmpAt σ x c) (hK : σ K = some (.list r vs)) :
    CmpsAt (upd σ K (.list r' vs')) (ws ++ [.ref x]) (cs ++ [c]) := by
  refine ⟨by rw [List.length_append, List.length_append, h.1]; rfl, fun i v d h1 h2 => ?_⟩
  rw [List.getElem?_append] at h1 h2
  split at h1
  · rename_i hlt
    rw [if_pos (by rw [← h.1]; exact hlt)] at h2
    obtain ⟨a, e, ha⟩ := h.2 i v d h1 h2
    exact ⟨a, e, ha.updL hK⟩
  · rename_i hlt
    rw [if_neg (by rw [← h.1]; exact hlt)] at h2
    rw [List.getElem?_singleton] at h1 h2
    split at h1
    · rename_i hz
      rw [if_pos (by rw [← h.1]; exact hz)] at h2
      cases h1; cases h2
      exact ⟨x, rfl, hx.updL hK⟩
    · cases h1

set_option maxHeartbeats 1000000 in
theorem turned_frame_spec {C : CC} {σ : Store} {a : Addr} {F : Frm} {w : Str} (hw : okData (.str w)) (hF : FrmAt σ a F) (ok : FrmOk F) :
    Spec C 3 (.ref 475) [.ref a, S w] σ (fun v σ' => ∃ x, v = .ref x ∧ FrmAt σ' x (turnF F w) ∧ Ext σ σ') := by
  refine' Spec_def (body := _ :: _) (DefOk.of' (names := [_, _]) (ns := [_, _, _, _, _, _, _, _, _, _, _, _]) ?h1 ?h2 ?h3 ?h17 ?h18 ?h4 ?h5 ?h6 ?h7 ?h8 ?h9 ?h10 ?h11 ?h12 ?h14 ?h15) ?_
  walk_at "dx"
  intro f
  have hF' := hF
  obtain ⟨dx, L, vs, h1, h2, h3, h4⟩ := hF
  have hfew := ok.few
  repeat walk_at "t"
  walk_at "w"
  repeat walk_at "t"
  refine ⟨by simp, fun M hM => ?_⟩
  repeat walk_at "t"
  refine TX_For ?_
  have hE0 := Ext.new (o := .list .plain []) hM
  refine TE_AttrV (hE0 _ _ h1) (hE0 _ _ h2) rfl (ao_components C) (by intro _ q; cases q) ?_ (TE_local (by rfl) ⟨rfl, rfl, rfl⟩)
  generalize hs : inW swpL w = s at *
  let G : LM → Prop := fun m => m.lookup (Str.ofString "frame") = some (.ref a) ∧ m.lookup (Str.ofString "word") = some (S w) ∧ m.lookup (Str.ofString "swaps") = some (.bool s) ∧ m.lookup (Str.ofString "components") = some (.ref M)
  refine ⟨.lst L, vs, fun i m₂ σ₂ => G m₂ ∧ Ext σ σ₂ ∧ ∃ ws, σ₂ M = some (.list .plain ws) ∧ CmpsAt σ₂ ws ((F.cs.take i).map (turnC s)), rfl,
    ⟨⟨rfl, rfl, rfl, rfl⟩, hE0, [], upd_self .., rfl, fun i v c q => by simp at q⟩, fun i m₂ σ₂ q => ⟨_, q.2.1 _ _ h3⟩, ?_, ?_⟩
  · rintro i v m₂ σ₂ hv ⟨⟨g1, g2, g3, g4⟩, hE, ws, hM2, hws⟩
    have hlt : i < F.cs.length := by rw [← h4.1]; exact (List.getElem?_eq_some_iff.mp hv).1
    obtain ⟨x, cx, k0, k1, k2⟩ := h4.get (p := i) (c := F.cs[i]) (by simp [hlt])
    rw [k0] at hv
    cases hv
    have k1 := hE _ _ k1
    have k2 := hE _ _ k2
    generalize hc : F.cs[i] = c at *
    refine TX_cons (TX_AssignSwap2 ?_ (swap_of (by rfl)))
    repeat walk_at "t"
    refine TE_AttrV k1 k2 rfl (ao_across C) (by intro _ q; cases q) ?_ (TE_local (by walk_at "lk") ⟨rfl, rfl, rfl⟩)
    repeat walk_at "t"
    refine TE_AttrV k1 k2 rfl (ao_down C) (by intro _ q; cases q) ?_ (TE_local (by walk_at "lk") ⟨rfl, rfl, rfl⟩)
    repeat walk_at "t"
    refine ⟨by simp, fun t ht => ⟨t, _, _, rfl, upd_self .., ?_⟩⟩
    have hE3 := hE.thenNew (o := .tup [I c.ac, I c.dn]) ht
    have hE23 := Ext.new (o := .tup [I c.ac, I c.dn]) ht
    have hws3 := hws.ext hE23
    have hM3 := hE23 _ _ hM2
    have k1 := hE23 _ _ k1
    have k2 := hE23 _ _ k2
    generalize upd σ₂ t (.tup [I c.ac, I c.dn]) = σ₃ at *
    refine Seq_next (TX_cons (TX.mono (Q := fun fl m σ₄ => fl = .next ∧ Ext σ₃ σ₄ ∧ G m ∧ m.lookup (Str.ofString "component") = some (.ref x) ∧ m.lookup (Str.ofString "across") = some (I (turnC s c).ac) ∧ m.lookup (Str.ofString "down") = some (I (turnC s c).dn)) ?_ ?_))
    · refine TX_If ?_
      repeat walk_at "t"
      refine iteB (fun hb => ?_) (fun hb => ?_)
      · refine TX_cons (TX_AssignSwap2 ?_ (swap_of (by rfl)))
        repeat walk_at "t"
        refine ⟨by simp, fun t' ht' => ⟨t', _, _, rfl, upd_self .., ?_⟩⟩
        repeat walk_at "t"
        exact ⟨rfl, Ext.new ht', ⟨by walk_at "lk", by walk_at "lk", by walk_at "lk", by walk_at "lk"⟩, by walk_at "lk", by simp only [turnC, hb]; rfl, by simp only [turnC, hb]; rfl⟩
      · repeat walk_at "t"
        exact ⟨rfl, Ext.refl _, ⟨by walk_at "lk", by walk_at "lk", by walk_at "lk", by walk_at "lk"⟩, by walk_at "lk", by simp only [turnC, hb]; rfl, by simp only [turnC, hb]; rfl⟩
    rintro fl m₄ σ₄ ⟨rfl, hE34, ⟨e1, e2, e3, e4⟩, e5, e6, e7⟩
    refine Seq_next (TX_cons (TX_Expr (TE_append ?_)))
    repeat walk_at "t"
    refine ⟨M, _, _, rfl, hE34 _ _ hM3, ?_⟩
    repeat walk_at "t"
    refine TE_AttrV (hE34 _ _ k1) (hE34 _ _ k2) rfl (ao_ident C) (by intro _ q; cases q) ?_ (TE_local (by walk_at "lk") ⟨rfl, rfl, rfl⟩)
    repeat walk_at "t"
    refine TE_AttrV (hE34 _ _ k1) (hE34 _ _ k2) rfl (ao_quant C) (by intro _ q; cases q) ?_ (TE_local (by walk_at "lk") ⟨rfl, rfl, rfl⟩)
    repeat walk_at "t"
    refine CallV_spec ((cmp_new_spec _ _ _ _).mono fun v σ₅ hq_ => ?_)
    obtain ⟨y, e, hy, hE45⟩ := hq_
    subst e
    have hM5 := hE45 _ _ (hE34 _ _ hM3)
    have hlen : ws.length ≤ 1000 := by rw [hws.1]; simp; omega
    refine CallV_append hM5 hlen ⟨rfl, ?_⟩
    repeat walk_at "t"
    refine ⟨⟨e1, e2, e3, e4⟩, ((hE3.trans hE34).trans hE45).own hM, _, upd_self .., ?_⟩
    have : (F.cs.take (i + 1)).map (turnC s) = (F.cs.take i).map (turnC s) ++ [turnC s c] := by
      rw [List.take_succ, List.map_append, List.getElem?_eq_getElem hlt, hc]; rfl
    rw [this]
    exact ((hws3.ext hE34).ext hE45).add hy hM5
  · rintro m₂ σ₂ ⟨⟨g1, g2, g3, g4⟩, hE, ws, hM2, hws⟩
    have h1' := hE _ _ h1
    have h2' := hE _ _ h2
    refine Seq_next (TX_cons (TX.mono (Q := fun fl m σ₄ => fl = .next ∧ Ext σ₂ σ₄ ∧ G m ∧ m.lookup (Str.ofString "width") = some (I (turnF F w).w) ∧ m.lookup (Str.ofString "height") = some (I (turnF F w).h)) ?_ ?_))
    · refine TX_AssignTup2 ?_
      repeat walk_at "t"
      refine iteB (fun hb => ?_) (fun hb => ?_)
      · repeat walk_at "t"
        refine TE_AttrV h1' h2' rfl (ao_height C) (by intro _ q; cases q) ?_ (TE_local (by walk_at "lk") ⟨rfl, rfl, rfl⟩)
        repeat walk_at "t"
        refine TE_AttrV h1' h2' rfl (ao_width C) (by intro _ q; cases q) ?_ (TE_local (by walk_at "lk") ⟨rfl, rfl, rfl⟩)
        repeat walk_at "t"
        refine ⟨by simp, fun t' ht' => ⟨t', _, _, rfl, upd_self .., ?_⟩⟩
        exact ⟨rfl, Ext.new ht', ⟨by walk_at "lk", by walk_at "lk", by walk_at "lk", by walk_at "lk"⟩, by simp only [turnF, hs, hb]; rfl, by simp only [turnF, hs, hb]; rfl⟩
      · repeat walk_at "t"
        refine TE_AttrV h1' h2' rfl (ao_width C) (by intro _ q; cases q) ?_ (TE_local (by walk_at "lk") ⟨rfl, rfl, rfl⟩)
        repeat walk_at "t"
        refine TE_AttrV h1' h2' rfl (ao_height C) (by intro _ q; cases q) ?_ (TE_local (by walk_at "lk") ⟨rfl, rfl, rfl⟩)
        repeat walk_at "t"
        refine ⟨by simp, fun t' ht' => ⟨t', _, _, rfl, upd_self .., ?_⟩⟩
        exact ⟨rfl, Ext.new ht', ⟨by walk_at "lk", by walk_at "lk", by walk_at "lk", by walk_at "lk"⟩, by simp only [turnF, hs, hb]; rfl, by simp only [turnF, hs, hb]; rfl⟩
    rintro fl m₄ σ₄ ⟨rfl, hE24, ⟨e1, e2, e3, e4⟩, e5, e6⟩
    repeat walk_at "t"
    refine TE_AttrV (hE24 _ _ h1') (hE24 _ _ h2') rfl (ao_kind C) (by intro _ q; cases q) ?_ (TE_local (by walk_at "lk") ⟨rfl, rfl, rfl⟩)
    repeat walk_at "t"
    refine TE_AttrV (hE24 _ _ h1') (hE24 _ _ h2') rfl (ao_precision C) (by intro _ q; cases q) ?_ (TE_local (by walk_at "lk") ⟨rfl, rfl, rfl⟩)
    repeat walk_at "t"
    refine TE_AttrV (hE24 _ _ h1') (hE24 _ _ h2') rfl (ao_n C) (by intro _ q; cases q) ?_ (TE_local (by walk_at "lk") ⟨rfl, rfl, rfl⟩)
    repeat walk_at "t"
    have hcs : (F.cs.take vs.length).map (turnC s) = (turnF F w).cs := by rw [h4.1, List.take_length]; simp only [turnF, hs]
    rw [hcs] at hws
    refine CallV_spec ((frm_new_spec (turnF F w) (hE24 _ _ hM2) (hws.ext hE24)).mono fun v σ₅ hq_ => ?_)
    obtain ⟨x, e, hx, hE5⟩ := hq_
    exact ⟨x, e, hx, (hE.trans hE24).trans hE5⟩

theorem cellsOf_lookup {ns nm : List (Str × NameKind)} {m : LM} {x : Str} (h : (relabelNs ns nm).lookup x = some .cell) : (cellsOf ns nm m).lookup x = m.lookup x := by
  unfold cellsOf
  induction m with
  | nil => rfl
  | cons p r ih =>
    obtain ⟨k, w⟩ := p
    rw [List.filter_cons]
    by_cases z : x = k
    · subst z
      rw [if_pos (by simp [h]), lookup_put, lookup_put, if_pos rfl, if_pos rfl]
    · split
      · rw [lookup_cons_ne z, lookup_cons_ne z]; exact ih
      · rw [lookup_cons_ne z]; exact ih

noncomputable abbrev Cell := Option (List Int)
noncomputable abbrev Cont := Nat → Nat → Nat → Cell
noncomputable abbrev Shape := List (Nat × Nat)
noncomputable def shapeOf (F : Frm) : Shape := F.cs.map fun c => ((mcA F * c.ac).toNat, (mcD F * c.dn).toNat)
noncomputable def CellIs (σ : Store) (v : Value) : Cell → Prop
  | none => v = .none
  | some l => l.length = 4 ∧ ∃ a, v = .ref a ∧ σ a = some (.list .plain (l.map I))
noncomputable def RowIs (σ : Store) (g p y a : Nat) (v : Value) (ct : Cont) : Prop := ∃ R vs, v = .ref R ∧ σ R = some (.list (.row g p y) vs) ∧ vs.length = a ∧ ∀ x u, vs[x]? = some u → CellIs σ u (ct p x y)
noncomputable def PlaneIs (σ : Store) (g p a d : Nat) (v : Value) (ct : Cont) : Prop := ∃ P rows, v = .ref P ∧ σ P = some (.list (.plane g p) rows) ∧ rows.length = d ∧ ∀ y u, rows[y]? = some u → RowIs σ g p y a u ct
noncomputable def PlanesAt (σ : Store) (g : Nat) (pl : List Value) (sh : Shape) (ct : Cont) : Prop := pl.length = sh.length ∧ ∀ p v a d, pl[p]? = some v → sh[p]? = some (a, d) → PlaneIs σ g p a d v ct
noncomputable def grdFields (A : Addr) : List (Str × Value) := [(Str.ofString "planes", .ref A), (Str.ofString "many", I 4)]
noncomputable def GridAt (σ : Store) (g : Nat) (sh : Shape) (ct : Cont) : Prop := ∃ dx A pl, σ g = some (.inst 181 dx) ∧ σ dx = some (.dict (grdFields A)) ∧ σ A = some (.list (.planes g) pl) ∧ PlanesAt σ g pl sh ct

noncomputable def ExtG (g : Nat) (σ σ' : Store) : Prop := ∀ a o, σ a = some o → (∀ p y vs, o ≠ .list (.row g p y) vs) → σ' a = some o
theorem Ext.toG {σ σ' : Store} (g : Nat) (h : Ext σ σ') : ExtG g σ σ' := fun a o e _ => h a o e
theorem ExtG.trans {g : Nat} {a b c : Store} (h : ExtG g a b) (k : ExtG g b c) : ExtG g a c := fun x o e n => k x o (h x o e n) n
theorem CmpAt.extG {g : Nat} {σ σ' : Store} {a : Addr} {c : Cmp} (h : CmpAt σ a c) (e : ExtG g σ σ') : CmpAt σ' a c := by
  obtain ⟨dx, h1, h2⟩ := h; exact ⟨dx, e _ _ h1 (fun _ _ _ q => by cases q), e _ _ h2 (fun _ _ _ q => by cases q)⟩
theorem FrmAt.extG {g : Nat} {σ σ' : Store} {a : Addr} {F : Frm} (h : FrmAt σ a F) (e : ExtG g σ σ') : FrmAt σ' a F := by
  obtain ⟨dx, L, vs, h1, h2, h3, h4, h5⟩ := h
  refine ⟨dx, L, vs, e _ _ h1 (fun _ _ _ q => by cases q), e _ _ h2 (fun _ _ _ q => by cases q), e _ _ h3 (fun _ _ _ q => by cases q), h4, fun i v c q1 q2 => ?_⟩
  obtain ⟨x, e1, e2⟩ := h5 i v c q1 q2
  exact ⟨x, e1, e2.extG e⟩
theorem CellIs.extG {g : Nat} {σ σ' : Store} {v : Value} : ∀ {c : Cell}, CellIs σ v c → ExtG g σ σ' → CellIs σ' v c
  | none, h, _ => h
  | some _, ⟨hl, a, e, h⟩, k => ⟨hl, a, e, k _ _ h (fun _ _ _ q => by cases q)⟩
theorem CellIs.ext {σ σ' : Store} {v : Value} {c : Cell} (h : CellIs σ v c) (k : Ext σ σ') : CellIs σ' v c := h.extG (k.toG 0)
theorem RowIs.extG {g g' p y a : Nat} {σ σ' : Store} {v : Value} {ct : Cont} (h : RowIs σ g p y a v ct) (k : ExtG g' σ σ') (hne : g ≠ g') : RowIs σ' g p y a v ct := by
  obtain ⟨R, vs, e, h1, h2, h3⟩ := h
  exact ⟨R, vs, e, k _ _ h1 (fun _ _ _ q => by cases q; exact hne rfl), h2, fun x u hu => (h3 x u hu).extG k⟩
theorem RowIs.ext {g p y a : Nat} {σ σ' : Store} {v : Value} {ct : Cont} (h : RowIs σ g p y a v ct) (k : Ext σ σ') : RowIs σ' g p y a v ct := by
  obtain ⟨R, vs, e, h1, h2, h3⟩ := h
  exact ⟨R, vs, e, k _ _ h1, h2, fun x u hu => (h3 x u hu).ext k⟩
theorem PlanesAt.ext {g : Nat} {σ σ' : Store} {pl : List Value} {sh : Shape} {ct : Cont} (h : PlanesAt σ g pl sh ct) (k : Ext σ σ') : PlanesAt σ' g pl sh ct := by
  refine ⟨h.1, fun p v a d h1 h2 => ?_⟩
  obtain ⟨P, rows, e1, e2, e3, e4⟩ := h.2 p v a d h1 h2
  exact ⟨P, rows, e1, k _ _ e2, e3, fun y u hu => (e4 y u hu).ext k⟩
theorem GridAt.ext {g : Nat} {σ σ' : Store} {sh : Shape} {ct : Cont} (h : GridAt σ g sh ct) (k : Ext σ σ') : GridAt σ' g sh ct := by
  obtain ⟨dx, A, pl, h1, h2, h3, h4⟩ := h
  exact ⟨dx, A, pl, k _ _ h1, k _ _ h2, k _ _ h3, h4.ext k⟩
theorem GridAt.extG {g g' : Nat} {σ σ' : Store} {sh : Shape} {ct : Cont} (h : GridAt σ g sh ct) (k : ExtG g' σ σ') (hne : g ≠ g') : GridAt σ' g sh ct := by
  obtain ⟨dx, A, pl, h1, h2, h3, h4⟩ := h
  refine ⟨dx, A, pl, k _ _ h1 (fun _ _ _ q => by cases q), k _ _ h2 (fun _ _ _ q => by cases q), k _ _ h3 (fun _ _ _ q => by cases q), h4.1, fun p v a d e1 e2 => ?_⟩
  obtain ⟨P, rows, e1, e2, e3, e4⟩ := h4.2 p v a d e1 e2
  exact ⟨P, rows, e1, k _ _ e2 (fun _ _ _ q => by cases q), e3, fun y u hu => (e4 y u hu).extG k hne⟩

noncomputable def nones : Cont := fun _ _ _ => none
noncomputable def setc (ct : Cont) (p x y : Nat) (c : Cell) : Cont := fun p' x' y' => if p' = p ∧ x' = x ∧ y' = y then c else ct p' x' y'

theorem ao_planes (C : CC) : AttrOk (KK C.w.params) 181 (Str.ofString "planes") := ⟨by k_is, by k_is, by k_is⟩
theorem ao_many (C : CC) : AttrOk (KK C.w.params) 181 (Str.ofString "many") := ⟨by k_is, by k_is, by k_is⟩
theorem mo_get (C : CC) : MethOk (KK C.w.params) 181 (Str.ofString "get") 171 := ⟨by k_is, by k_is, by k_is, by k_is⟩
theorem mo_put (C : CC) : MethOk (KK C.w.params) 181 (Str.ofString "put") 178 := ⟨by k_is, by k_is, by k_is, by k_is⟩

theorem FrmOk.sh {F : Frm} (ok : FrmOk F) {p : Nat} {c : Cmp} (hp : F.cs[p]? = some c) : (0 ≤ Mine.mcA F * c.ac ∧ Mine.mcA F * c.ac ≤ 22) ∧ (0 ≤ Mine.mcD F * c.dn ∧ Mine.mcD F * c.dn ≤ 22) := by
  have h1 := ok.mcA
  have h2 := ok.mcD
  have h3 := ok.ac c (List.mem_of_getElem? hp)
  have h4 := ok.dn c (List.mem_of_getElem? hp)
  have a := mul_bd h1.1 h1.2 (show 0 ≤ c.ac by omega) h3.2
  have b := mul_bd h2.1 h2.2 (show 0 ≤ c.dn by omega) h4.2
  exact ⟨by omega, by omega⟩
theorem rangeItems_get {N i : Nat} {v : Value} (h : (rangeItems 0 N 1)[i]? = some v) : i < N ∧ v = I i := by
  unfold rangeItems at h
  rw [List.getElem?_map] at h
  cases q : (List.range (Builtin.Range.rangeSize 0 N 1).toNat)[i]? with
  | none => rw [q] at h; cases h
  | some k =>
    rw [q] at h
    have hl := (List.getElem?_eq_some_iff.mp q).1
    rw [List.length_range] at hl
    rw [List.getElem?_range hl] at q
    cases q
    have hz : (Builtin.Range.rangeSize 0 (N : Int) 1).toNat = N := by
      unfold Builtin.Range.rangeSize
      simp
      try omega
    rw [hz] at hl
    refine ⟨hl, ?_⟩
    have := Option.some.inj h
    rw [← this]; simp
theorem rangeItems_len (N : Nat) : (rangeItems 0 N 1).length = N := by
  unfold rangeItems
  rw [List.length_map, List.length_range]
  unfold Builtin.Range.rangeSize
  simp
  try omega
theorem rangeSize_is (N : Nat) : Builtin.Range.rangeSize 0 N 1 = N := by
  unfold Builtin.Range.rangeSize
  by_cases h : 0 < N <;> simp [h]
  omega
theorem range_small {N : Nat} (h : N ≤ 1000) : Builtin.Range.small 0 N 1 = true := by
  unfold Builtin.Range.small
  rw [rangeSize_is]
  simp [Builtin.Range.rangeFitsLong]
  omega

theorem ExtB.own {D : Addr} {σ σ' : Store} {a : Addr} {o : AObj} (h : ExtB D σ σ') (hn : σ a = none) : ExtB D σ (upd σ' a o) := fun b p n e => by
  rw [upd_ne (fun z => by subst z; rw [hn] at e; cases e)]; exact h b p n e
theorem CmpAt.extB {dx : Addr} {σ σ' : Store} {a : Addr} {c : Cmp} (h : CmpAt σ a c) (e : ExtB dx σ σ') (hd : σ dx = some (.dict [])) : CmpAt σ' a c := by
  obtain ⟨d, h1, h2⟩ := h
  exact ⟨d, e _ _ (ne_kind h1 hd (by intro q; cases q)) h1, e _ _ (ne_kind h2 hd (by intro q; cases q)) h2⟩
theorem FrmAt.extB {dx : Addr} {σ σ' : Store} {a : Addr} {F : Frm} (h : FrmAt σ a F) (e : ExtB dx σ σ') (hd : σ dx = some (.dict [])) : FrmAt σ' a F := by
  obtain ⟨d, L, vs, h1, h2, h3, h4, h5⟩ := h
  refine ⟨d, L, vs, e _ _ (ne_kind h1 hd (by intro q; cases q)) h1, e _ _ (ne_kind h2 hd (by intro q; cases q)) h2, e _ _ (ne_kind h3 hd (by intro q; cases q)) h3, h4, fun i v c q1 q2 => ?_⟩
  obtain ⟨x, e1, e2⟩ := h5 i v c q1 q2
  exact ⟨x, e1, e2.extB e hd⟩
theorem PlanesAt.updP {g : Nat} {σ : Store} {A : Addr} {pl vs vs' : List Value} {sh : Shape} {ct : Cont} (h : PlanesAt σ g pl sh ct) (hA : σ A = some (.list (.planes g) vs)) : PlanesAt (upd σ A (.list (.planes g) vs')) g pl sh ct := by
  refine ⟨h.1, fun p v a d h1 h2 => ?_⟩
  obtain ⟨P, rows, e1, e2, e3, e4⟩ := h.2 p v a d h1 h2
  refine ⟨P, rows, e1, (upd_ne (ne_kind e2 hA (by intro q; cases q))).trans e2, e3, fun y u hu => ?_⟩
  obtain ⟨R, ws, k1, k2, k3, k4⟩ := e4 y u hu
  refine ⟨R, ws, k1, (upd_ne (ne_kind k2 hA (by intro q; cases q))).trans k2, k3, fun x u' hu' => ?_⟩
  have := k4 x u' hu'
  cases hc : ct p y x <;> cases hc' : ct p x y <;> rw [hc'] at this
  · exact this
  · obtain ⟨hl, c, z1, z2⟩ := this; exact ⟨hl, c, z1, (upd_ne (ne_kind z2 hA (by intro q; cases q))).trans z2⟩
  · exact this
  · obtain ⟨hl, c, z1, z2⟩ := this; exact ⟨hl, c, z1, (upd_ne (ne_kind z2 hA (by intro q; cases q))).trans z2⟩
section
variable {n : Nat} {ns : List (Str × NameKind)} {C : CC} {f : Fx n ns} {m : LM} {σ : Store}
theorem CallV_retag {fv : Value} {vs : List Value} {a : Addr} {r r' : Role} {xs : List Value} {Q : Value → LM → Store → Prop} (ha : σ a = some (.list r xs)) (h : CallV C f m (upd σ a (.list r' xs)) fv vs Q) : CallV C f m σ fv vs Q :=
  fun ws hw => T_retag ha (h ws hw)
theorem TX_retag {t : Sem Flow} {a : Addr} {r r' : Role} {vs : List Value} {Q : Flow → LM → Store → Prop} (ha : σ a = some (.list r vs)) (h : TX C f m (upd σ a (.list r' vs)) t Q) : TX C f m σ t Q := T_retag ha h
theorem TE_post {e : Expr} {Q Q' : Value → LM → Store → Prop} (h : TE C f m σ e Q) (hq : ∀ v m' σ', Q v m' σ' → Q' v m' σ' ∨ ∃ a r r' vs, σ' a = some (.list r vs) ∧ Q' v m' (upd σ' a (.list r' vs))) : TE C f m σ e Q' :=
  T_post h fun v => hq (er v)
end

set_option maxHeartbeats 1000000 in
theorem grid_init_spec {C : CC} {σ : Store} {g dx a : Addr} {F : Frm} (hg : σ g = some (.inst 181 dx)) (hd : σ dx = some (.dict [])) (hF : FrmAt σ a F) (ok : FrmOk F) :
    Spec C 4 (.ref 164) [.ref g, .ref a] σ (fun v σ' => v = .none ∧ GridAt σ' g (shapeOf F) nones ∧ ExtB dx σ σ') := by
  refine' Spec_defC (body := _ :: _) (DefOkC.of' (names := [_, _]) (ns := [_, _, _, _, _, _, _]) ?h1 ?h2 ?h3 ?h17 ?h18 ?h4 ?h5 ?h6 ?h7 ?h8 ?h16 ?h9 ?h10 ?h11 ?h12 ?h14 ?h15) ?_
  walk_at "dx"
  intro f hO
  have hne : g ≠ dx := ne_kind hg hd (by intro q; cases q)
  have hF' := hF
  obtain ⟨fx, L, vs, h1, h2, h3, h4⟩ := hF
  refine TX_cons (TX_SetSelf (v := I 4) hg hd (by decide) (so181_many C) ?_ (TE_local (by rfl) ⟨rfl, rfl, rfl⟩) ?_)
  · repeat walk_at "t"
    refine TE_AttrV h1 h2 rfl (ao_n C) (by intro _ q; cases q) ?_ (TE_local (by rfl) ⟨rfl, rfl, rfl⟩)
    refine TE_AttrV h1 h2 rfl (ao_n C) (by intro _ q; cases q) ?_ (TE_local (by rfl) ⟨rfl, rfl, rfl⟩)
    repeat walk_at "t"
    exact ⟨rfl, rfl, rfl⟩
  have hB1 : ExtB dx σ (upd σ dx (.dict [(Str.ofString "many", I 4)])) := ExtB.at
  have hg1 : upd σ dx (.dict [(Str.ofString "many", I 4)]) g = some (.inst 181 dx) := (upd_ne hne).trans hg
  have hd1 : upd σ dx (.dict [(Str.ofString "many", I 4)]) dx = some (.dict [(Str.ofString "many", I 4)]) := upd_self ..
  generalize upd σ dx (.dict [(Str.ofString "many", I 4)]) = σ₁ at *
  refine Seq_next (TX_cons (TX_AssignAttr ?_))
  repeat walk_at "t"
  refine ⟨by simp, fun A hA => ?_⟩
  repeat walk_at "t"
  have hAg : g ≠ A := ne_new hg1 hA
  have hAd : dx ≠ A := ne_new hd1 hA
  have hAn : σ A = none := by
    cases q : σ A with
    | none => rfl
    | some o => rw [hB1 A o hAd.symm q] at hA; cases hA
  refine ⟨g, 181, dx, _, rfl, (upd_ne hAg).trans hg1, (upd_ne hAd).trans hd1, by simp, so181_planes C, ?_⟩
  have hB2 : ExtB dx σ (upd (upd σ₁ A (.list .plain [])) dx (.dict (grdFields A))) := (hB1.own hAn).trans ExtB.at
  have hg2 : upd (upd σ₁ A (.list .plain [])) dx (.dict (grdFields A)) g = some (.inst 181 dx) := (upd_ne hne).trans ((upd_ne hAg).trans hg1)
  have hd2 : upd (upd σ₁ A (.list .plain [])) dx (.dict (grdFields A)) dx = some (.dict (grdFields A)) := upd_self ..
  have hA2 : upd (upd σ₁ A (.list .plain [])) dx (.dict (grdFields A)) A = some (.list .plain []) := (upd_ne hAd.symm).trans (upd_self ..)
  show Seq C f _ _ Flow.next _ (upd (upd σ₁ A (.list .plain [])) dx (.dict (grdFields A)))
  generalize upd (upd σ₁ A (.list .plain [])) dx (.dict (grdFields A)) = σ₂ at *
  refine Seq_next (TX_retag (r' := .planes g) hA2 ?_)
  have hB3 := hB2.own (o := .list (.planes g) []) hAn
  have hg3 := (upd_ne (σ := σ₂) (o := .list (.planes g) []) hAg).trans hg2
  have hd3 := (upd_ne (σ := σ₂) (o := .list (.planes g) []) hAd).trans hd2
  have hA3 := upd_self σ₂ A (.list (.planes g) [])
  generalize upd σ₂ A (.list (.planes g) []) = σ₃ at *
  have hF3 := hF'.extB hB3 hd
  repeat walk_at "t"
  refine TX_For ?_
  repeat walk_at "t"
  obtain ⟨fx', L', vs', h1', h2', h3', h4'⟩ := hF3
  refine TE_AttrV h1' h2' rfl (ao_components C) (by intro _ q; cases q) ?_ (TE_local (by rfl) ⟨rfl, rfl, rfl⟩)
  have hfew := ok.few
  have hlen : vs'.length ≤ 1000 := by rw [h4'.1]; omega
  repeat walk_at "t"
  refine CallV_lenL h3' hlen ?_
  repeat walk_at "t"
  intro R hR
  have hRA : A ≠ R := ne_new hA3 hR
  have hE3 := Ext.new (o := .rng 0 vs'.length 1) hR
  refine ⟨.rng R 0 vs'.length 1, rangeItems 0 vs'.length 1, fun k m₂ σ₂ => m₂.lookup (Str.ofString "self") = some (.ref g) ∧ m₂.lookup (Str.ofString "frame") = some (.ref a) ∧ ExtB dx σ σ₂ ∧ FrmAt σ₂ a F ∧ σ₂ g = some (.inst 181 dx) ∧
      σ₂ dx = some (.dict (grdFields A)) ∧ σ₂ R = some (.rng 0 vs'.length 1) ∧ ∃ pl, σ₂ A = some (.list (.planes g) pl) ∧ PlanesAt σ₂ g pl ((shapeOf F).take k) nones, rfl,
    ⟨rfl, rfl, hB3.trans (hE3.toB dx), FrmAt.ext ⟨fx', L', vs', h1', h2', h3', h4'⟩ hE3, hE3 _ _ hg3, hE3 _ _ hd3, upd_self .., [], hE3 _ _ hA3, rfl, fun p v a d q => by simp at q⟩,
    fun k m₂ σ₂ q => ⟨q.2.2.2.2.2.2.1, range_small hlen, rfl⟩, ?_, ?_⟩
  · rintro k v m₂ σ₂ hv ⟨g1, g2, hB, hFk, hgk, hdk, hRk, pl, hAk, hpl⟩
    obtain ⟨hk, rfl⟩ := rangeItems_get hv
    have hkc : k < F.cs.length := by rw [← h4'.1]; exact hk
    generalize hc : F.cs[k] = c
    have hc' : F.cs[k]? = some c := by rw [List.getElem?_eq_getElem hkc, hc]
    obtain ⟨b1, b2⟩ := ok.sh hc'
    have hFk' := hFk
    obtain ⟨fx'', L'', vs'', h1'', h2'', h3'', h4''⟩ := hFk
    refine TX_cons (TX_AssignTup2 (TE_MethV h1'' h2'' rfl (mo_padded C) (TE_local (by walk_at "lk") ⟨rfl, rfl, rfl⟩) ?_))
    repeat walk_at "t"
    refine CallV_spec ((padded_spec hFk' ok hc').mono fun v σ₄ hq_ => ?_)
    obtain ⟨t, e, ht, hE4⟩ := hq_
    subst e
    refine ⟨t, _, _, rfl, ht, ?_⟩
    refine Seq_next (TX_cons (TX_Expr (TE_append ?_)))
    refine TE_AttrV (hE4 _ _ hgk) (hE4 _ _ hdk) rfl (ao_planes C) (by intro _ q; cases q) ?_ (TE_local (by walk_at "lk") ⟨rfl, rfl, rfl⟩)
    refine ⟨A, _, pl, rfl, hE4 _ _ hAk, ?_⟩
    have hAn4 : σ₄ A ≠ none := by rw [hE4 _ _ hAk]; intro q; cases q
    generalize ha : mcA F * c.ac = aa at *
    generalize hdd : mcD F * c.dn = dd at *
    refine TE_ListMap (fun D i w σ => ∃ r, w = .ref r ∧ r ≠ D ∧ σ r = some (.list (.row g k i) (List.replicate aa.toNat .none))) dd.toNat (by omega) (by exact ⟨rfl, rfl, rfl, rfl⟩) (by intro y hy; simp at hy; subst hy; exact ⟨_, by walk_at "lk"⟩) (by rfl)
      (fun D i w σ₁ σ₂ hx ⟨r, e1, e2, e3⟩ => ⟨r, e1, e2, hx _ _ e2 e3⟩) ?_
    repeat walk_at "t"
    intro R2 hR2
    have hE5 := Ext.new (o := .rng 0 dd 1) hR2
    refine ⟨rfl, hE5, .rng R2 0 dd 1, rangeItems 0 dd 1, rfl, ⟨upd_self .., ?_, rfl⟩, ?_, fun D hD => ⟨fun fc i v m₃ σ₅ hv hm hE6 hDl => ?_, fun σ₅ ws hE6 hw hl hP => ?_⟩⟩
    · have := range_small (N := dd.toNat) (by omega)
      rwa [show ((dd.toNat : Nat) : Int) = dd by omega] at this
    · have := rangeItems_len dd.toNat
      rwa [show ((dd.toNat : Nat) : Int) = dd by omega] at this
    · refine TE_post (Q := fun w m' σ' => ∃ r, w = .ref r ∧ m' = (Str.ofString "y", v) :: m₃ ∧ Ext σ₅ σ' ∧ σ₅ r = none ∧ σ' r = some (.list .plain (List.replicate aa.toNat .none))) ?_ ?_
      · repeat walk_at "t"
        refine ⟨by simp, fun Z hZ => ?_⟩
        refine TE_cell (v := I aa) ?_ ?_
        · rw [lookup_cons_ne (by decide), hm _ (by decide), cellsOf_lookup (by rfl)]
          walk_at "lk"
        · refine Op2_mulL (upd_self ..) (by omega) (by omega) fun r hr => ?_
          exact ⟨r, rfl, rfl, (Ext.new hZ).thenNew hr, none_of (Ext.new hZ) hr, upd_self ..⟩
      · rintro w m' σ' ⟨r, rfl, rfl, hE7, hr0, hr⟩
        refine .inr ⟨r, .plain, .row g k i, _, hr, rfl, hE7.own hr0, r, rfl, ?_, upd_self ..⟩
        obtain ⟨ws, hws⟩ := hDl
        exact (ne_new hws hr0).symm
    · have hD0 : σ₄ D = none := none_of hE5 hD
      have hE46 := hE5.trans hE6
      have hAD : A ≠ D := ne_new (hE4 _ _ hAk) hD0
      refine CallV_retag (r' := .plane g k) hw ?_
      have hE7 : Ext σ₄ (upd σ₅ D (.list (.plane g k) ws)) := hE46.own hD0
      have hE27 := hE4.trans hE7
      have hDn : σ D = none := by
        cases q : σ D with
        | none => rfl
        | some o =>
          have hDd : D ≠ dx := fun z => by subst z; rw [hE4 _ _ hdk] at hD0; cases hD0
          have := hE4 _ _ (hB D o hDd q)
          rw [hD0] at this; cases this
      have hD7 := upd_self σ₅ D (.list (.plane g k) ws)
      have hP7 : ∀ i w, ws[i]? = some w → ∃ r, w = .ref r ∧ upd σ₅ D (.list (.plane g k) ws) r = some (.list (.row g k i) (List.replicate aa.toNat .none)) := fun i w hi => by
        obtain ⟨r, e1, e2, e3⟩ := hP i w hi
        exact ⟨r, e1, (upd_ne e2).trans e3⟩
      generalize upd σ₅ D (.list (.plane g k) ws) = σ₇ at *
      have hA7 := hE27 _ _ hAk
      have hplen : pl.length = k := by rw [hpl.1, List.length_take]; simp [shapeOf]; omega
      refine CallV_append hA7 (by omega) ⟨rfl, ?_⟩
      repeat walk_at "t"
      have hAg7 : ExtB A σ₇ (upd σ₇ A (.list (.planes g) (pl ++ [.ref D]))) := ExtB.at
      have hRA' : R ≠ A := hRA.symm
      refine ⟨by walk_at "lk", by walk_at "lk", ?_, ?_, hAg7 _ _ hAg (hE27 _ _ hgk), hAg7 _ _ hAd (hE27 _ _ hdk), hAg7 _ _ hRA' (hE27 _ _ hRk), _, upd_self .., ?_⟩
      · exact (hB.trans (hE27.toB dx)).own hAn
      · obtain ⟨q1, q2, q3, q4, q5, q6, q7, q8⟩ := hFk'.ext hE27
        refine ⟨q1, q2, q3, hAg7 _ _ (ne_kind q4 hA7 (by intro q; cases q)) q4, hAg7 _ _ (ne_kind q5 hA7 (by intro q; cases q)) q5, hAg7 _ _ (ne_kind q6 hA7 (by intro q; cases q)) q6, q7, fun i v c z1 z2 => ?_⟩
        obtain ⟨x, y1, y2⟩ := q8 i v c z1 z2
        exact ⟨x, y1, y2.updL hA7⟩
      · refine PlanesAt.updP ?_ hA7
        have hp7 := hpl.ext hE27
        have hsh : (shapeOf F)[k]? = some (aa.toNat, dd.toNat) := by
          unfold shapeOf; rw [List.getElem?_map, hc']; simp [ha, hdd]
        refine ⟨by rw [List.length_append, hplen, List.length_take]; simp [shapeOf]; omega, fun p v a d z1 z2 => ?_⟩
        rw [List.getElem?_append] at z1
        split at z1
        · rename_i hlt
          rw [hplen] at hlt
          refine hp7.2 p v a d z1 ?_
          rw [List.getElem?_take_of_lt hlt]
          rw [List.getElem?_take_of_lt (by omega)] at z2
          exact z2
        · rename_i hlt
          rw [List.getElem?_singleton] at z1
          split at z1
          · rename_i hz
            cases z1
            have hpk : p = k := by omega
            subst hpk
            rw [List.getElem?_take_of_lt (by omega), hsh] at z2
            cases z2
            refine ⟨D, ws, rfl, hD7, hl, fun y u hu => ?_⟩
            obtain ⟨r, rfl, hr⟩ := hP7 y u hu
            refine ⟨r, _, rfl, hr, by simp, fun x u' hu' => ?_⟩
            have := List.getElem?_replicate (n := aa.toNat) (a := Value.none) (i := x)
            rw [this] at hu'
            split at hu'
            · cases hu'; rfl
            · cases hu'
          · cases z1
  · rintro m₂ σ₂ ⟨g1, g2, hB, hFk, hgk, hdk, hRk, pl, hAk, hpl⟩
    repeat walk_at "t"
    refine ⟨rfl, ⟨dx, A, pl, hgk, hdk, hAk, ?_⟩, hB⟩
    rw [rangeItems_len, h4'.1] at hpl
    have : (shapeOf F).take F.cs.length = shapeOf F := by
      have : F.cs.length = (shapeOf F).length := by simp [shapeOf]
      rw [this, List.take_length]
    rwa [this] at hpl

theorem grid_new_spec {C : CC} {σ : Store} {a : Addr} {F : Frm} (hF : FrmAt σ a F) (ok : FrmOk F) :
    Spec C 5 (.ref 181) [.ref a] σ (fun v σ' => ∃ g, v = .ref g ∧ σ g = none ∧ GridAt σ' g (shapeOf F) nones ∧ Ext σ σ') := by
  refine Spec_cls (clsOk181 C) fun x dx hx hdx hne => ?_
  have hE : Ext σ (upd (upd σ dx (.dict [])) x (.inst 181 dx)) := Ext.own (Ext.new hdx) hx
  refine (grid_init_spec (upd_self ..) ((upd_ne hne.symm).trans (upd_self ..)) (hF.ext hE) ok).mono fun v σ' hq_ => ?_
  obtain ⟨e1, e2, e3⟩ := hq_
  refine ⟨e1, x, rfl, hx, e2, ?_⟩
  intro b o hb
  exact e3 b o (ne_new hb hdx) (hE b o hb)

noncomputable def cellVal (c : Cell) : List Int := c.getD [0, 0, 0, 0]
theorem GridAt.cell {σ : Store} {g p x y a d : Nat} {sh : Shape} {ct : Cont} (h : GridAt σ g sh ct) (hp : sh[p]? = some (a, d)) (hx : x < a) (hy : y < d) :
    ∃ dx A pl P rows R vs u, σ g = some (.inst 181 dx) ∧ σ dx = some (.dict (grdFields A)) ∧ σ A = some (.list (.planes g) pl) ∧ pl[p]? = some (.ref P) ∧ σ P = some (.list (.plane g p) rows) ∧ rows[y]? = some (.ref R) ∧
      σ R = some (.list (.row g p y) vs) ∧ vs[x]? = some u ∧ CellIs σ u (ct p x y) ∧ x < vs.length := by
  obtain ⟨dx, A, pl, h1, h2, h3, h4⟩ := h
  have hlt : p < pl.length := by rw [h4.1]; exact (List.getElem?_eq_some_iff.mp hp).1
  obtain ⟨P, rows, e1, e2, e3, e4⟩ := h4.2 p pl[p] a d (by simp [hlt]) hp
  have hy' : y < rows.length := by rw [e3]; exact hy
  obtain ⟨R, vs, k1, k2, k3, k4⟩ := e4 y rows[y] (by simp [hy'])
  have hx' : x < vs.length := by rw [k3]; exact hx
  exact ⟨dx, A, pl, P, rows, R, vs, vs[x], h1, h2, h3, by rw [← e1]; simp [hlt], e2, by rw [← k1]; simp [hy'], k2, by simp [hx'], k4 x _ (by simp [hx']), hx'⟩

set_option maxHeartbeats 1000000 in
theorem get_spec {C : CC} {σ : Store} {g p x y a d : Nat} {sh : Shape} {ct : Cont} (h : GridAt σ g sh ct) (hp : sh[p]? = some (a, d)) (hx : x < a) (hy : y < d) (hbig : a ≤ 1000 ∧ d ≤ 1000 ∧ p ≤ 1000) :
    Spec C 1 (.ref 171) [.ref g, I p, I x, I y] σ (fun v σ' => ∃ c, v = .ref c ∧ σ' c = some (.list .plain ((cellVal (ct p x y)).map I)) ∧ Ext σ σ') := by
  refine' Spec_def (body := _ :: _) (DefOk.of' (names := [_, _, _, _]) (ns := [_, _, _, _, _]) ?h1 ?h2 ?h3 ?h17 ?h18 ?h4 ?h5 ?h6 ?h7 ?h8 ?h9 ?h10 ?h11 ?h12 ?h14 ?h15) ?_
  walk_at "dx"
  intro f
  obtain ⟨dx, A, pl, P, rows, R, vs, u, h1, h2, h3, h4, h5, h6, h7, h8, h9, hx'⟩ := h.cell hp hx hy
  repeat walk_at "t"
  refine TE_AttrV h1 h2 rfl (ao_planes C) (by intro _ q; cases q) ?_ (TE_local (by rfl) ⟨rfl, rfl, rfl⟩)
  repeat walk_at "t"
  refine ⟨A, p, .ref P, rfl, rfl, by omega, by omega, .inl ⟨_, _, h3, by simpa using h4⟩, ?_⟩
  repeat walk_at "t"
  refine ⟨P, y, .ref R, rfl, rfl, by omega, by omega, .inl ⟨_, _, h5, by simpa using h6⟩, ?_⟩
  repeat walk_at "t"
  refine ⟨R, x, u, rfl, rfl, by omega, by omega, .inl ⟨_, _, h7, by simpa using h8⟩, ?_⟩
  repeat walk_at "t"
  cases hc : ct p x y with
  | none =>
    rw [hc] at h9
    have h9 : u = .none := h9
    subst h9
    refine Op2_isNone ?_ (by intro _ q; cases q)
    repeat walk_at "t"
    refine iteT rfl ?_
    repeat walk_at "t"
    refine ⟨by simp, fun Z hZ => ?_⟩
    have hE := Ext.new (o := .list .plain [I 0]) hZ
    refine TE_AttrV (hE _ _ h1) (hE _ _ h2) rfl (ao_many C) (by intro _ q; cases q) ?_ (TE_local (by rfl) ⟨rfl, rfl, rfl⟩)
    refine Op2_mulL (upd_self ..) (by decide) (by decide) fun c hc => ?_
    exact ⟨c, rfl, upd_self .., hE.thenNew hc⟩
  | some l =>
    rw [hc] at h9
    obtain ⟨hl, c, e, h9⟩ := h9
    subst e
    refine Op2_isNone ?_ (by intro _ q; cases q)
    repeat walk_at "t"
    refine iteF (by intro q; cases q) ?_
    repeat walk_at "t"
    exact ⟨c, rfl, h9, Ext.refl _⟩

theorem upd_some {σ : Store} {a b : Addr} {o p : AObj} (h : σ a = some o) (hne : a ≠ b) : upd σ b p a = some o := (upd_ne hne).trans h
theorem GridAt.put {σ : Store} {g p x y : Nat} {sh : Shape} {ct : Cont} (h : GridAt σ g sh ct)
    {dx A P R c : Addr} {pl rows vs : List Value} {l : List Int} (q1 : σ g = some (.inst 181 dx)) (q2 : σ dx = some (.dict (grdFields A))) (q3 : σ A = some (.list (.planes g) pl)) (q4 : pl[p]? = some (.ref P)) (q5 : σ P = some (.list (.plane g p) rows)) (q6 : rows[y]? = some (.ref R))
    (hR : σ R = some (.list (.row g p y) vs)) (hc : σ c = some (.list .plain (l.map I))) (hl : l.length = 4) :
    GridAt (upd σ R (.list (.row g p y) (vs.set x (.ref c)))) g sh (setc ct p x y (some l)) := by
  obtain ⟨dx', A', pl', h1, h2, h3, h4⟩ := h
  rw [q1] at h1; cases h1
  rw [q2] at h2
  have : A' = A := by
    have := congrArg (fun o => match o with | some (AObj.dict fs) => fs.head? | _ => none) h2
    simp [grdFields] at this
    exact this.symm
  subst this
  rw [q3] at h3; cases h3
  have keep : ∀ {v : Value} {ce : Cell}, CellIs σ v ce → CellIs (upd σ R (.list (.row g p y) (vs.set x (.ref c)))) v ce := fun {v ce} q => by
    cases ce with
    | none => exact q
    | some l' =>
      obtain ⟨hl', c', e, z⟩ := q
      exact ⟨hl', c', e, upd_some z (ne_kind z hR (by intro q; cases q))⟩
  refine ⟨dx, A', pl, upd_some q1 (ne_kind q1 hR (by intro q; cases q)), upd_some q2 (ne_kind q2 hR (by intro q; cases q)), upd_some q3 (ne_kind q3 hR (by intro q; cases q)), h4.1, fun p' v a' d' e1 e2 => ?_⟩
  obtain ⟨P', rows', k1, k2, k3, k4⟩ := h4.2 p' v a' d' e1 e2
  refine ⟨P', rows', k1, upd_some k2 (ne_kind k2 hR (by intro q; cases q)), k3, fun y' u hu => ?_⟩
  obtain ⟨R', vs', z1, z2, z3, z4⟩ := k4 y' u hu
  by_cases hRR : R' = R
  · subst hRR
    rw [hR] at z2
    cases z2
    refine ⟨R', _, z1, upd_self .., by rw [List.length_set]; exact z3, fun x' u' hu' => ?_⟩
    rw [List.getElem?_set] at hu'
    unfold setc
    by_cases hxx : x = x'
    · subst hxx
      rw [if_pos rfl] at hu'
      split at hu'
      · cases hu'
        rw [if_pos ⟨rfl, rfl, rfl⟩]
        exact ⟨hl, c, rfl, upd_some hc (ne_kind hc hR (by intro q; cases q))⟩
      · cases hu'
    · rw [if_neg hxx] at hu'
      rw [if_neg (fun q => hxx q.2.1.symm)]
      exact keep (z4 x' u' hu')
  · refine ⟨R', vs', z1, upd_some z2 hRR, z3, fun x' u' hu' => ?_⟩
    unfold setc
    rw [if_neg]
    · exact keep (z4 x' u' hu')
    · rintro ⟨rfl, rfl, rfl⟩
      apply hRR
      rw [q4] at e1
      cases e1
      cases k1
      rw [q5] at k2
      cases k2
      rw [q6] at hu
      cases hu
      cases z1
      rfl

set_option maxHeartbeats 1000000 in
theorem put_spec {C : CC} {σ : Store} {g p x y a d b : Nat} {ro : Role} {l : List Int} {sh : Shape} {ct : Cont} (h : GridAt σ g sh ct) (hp : sh[p]? = some (a, d)) (hx : x < a) (hy : y < d) (hbig : a ≤ 1000 ∧ d ≤ 1000 ∧ p ≤ 1000)
    (hb : σ b = some (.list ro (l.map I))) (hl : l.length = 4) :
    Spec C 1 (.ref 178) [.ref g, I p, I x, I y, .ref b] σ (fun v σ' => v = .none ∧ GridAt σ' g sh (setc ct p x y (some l)) ∧ ExtG g σ σ') := by
  refine' Spec_def (body := _ :: _) (DefOk.of' (names := [_, _, _, _, _]) (ns := [_, _, _, _, _, _]) ?h1 ?h2 ?h3 ?h17 ?h18 ?h4 ?h5 ?h6 ?h7 ?h8 ?h9 ?h10 ?h11 ?h12 ?h14 ?h15) ?_
  walk_at "dx"
  intro f
  obtain ⟨dx, A, pl, P, rows, R, vs, u, h1, h2, h3, h4, h5, h6, h7, h8, h9, hx'⟩ := h.cell hp hx hy
  repeat walk_at "t"
  refine CallV_listL hb (by rw [List.length_map, hl]; decide) fun c hc => ?_
  have hE := Ext.new (o := .list .plain (l.map I)) hc
  have hcc := upd_self σ c (.list .plain (l.map I))
  generalize upd σ c (.list .plain (l.map I)) = σ₁ at *
  repeat walk_at "t"
  refine TE_AttrV (hE _ _ h1) (hE _ _ h2) rfl (ao_planes C) (by intro _ q; cases q) ?_ (TE_local (by rfl) ⟨rfl, rfl, rfl⟩)
  repeat walk_at "t"
  refine ⟨A, p, .ref P, rfl, rfl, by omega, by omega, .inl ⟨_, _, hE _ _ h3, by simpa using h4⟩, ?_⟩
  repeat walk_at "t"
  refine ⟨P, y, .ref R, rfl, rfl, by omega, by omega, .inl ⟨_, _, hE _ _ h5, by simpa using h6⟩, ?_⟩
  repeat walk_at "t"
  refine ⟨R, x, _, vs, rfl, rfl, by omega, by omega, hE _ _ h7, by simpa using hx', ?_⟩
  repeat walk_at "t"
  refine ⟨rfl, ?_, ?_⟩
  · rw [show ((x : Int)).toNat = x by omega]
    exact (h.ext hE).put (hE _ _ h1) (hE _ _ h2) (hE _ _ h3) h4 (hE _ _ h5) h6 (hE _ _ h7) hcc hl
  · intro b' o hb' ho
    refine upd_some (hE _ _ hb') (fun z => ?_)
    subst z
    rw [h7] at hb'
    cases hb'
    exact ho _ _ _ rfl
local macro_rules | `(tactic| walk_at "w") => `(tactic| first | refine Op2_inSwp (by assumption) ?_ | refine Op2_inMir (by assumption) ?_ | refine Op2_inFlp (by assumption) ?_ | refine Op2_ninWrd (by assumption) ?_)

theorem maxA_turn (F : Frm) (w : Str) : maxA (turnF F w) = if inW swpL w then maxD F else maxA F := by
  unfold maxA maxD turnF turnC
  cases inW swpL w <;> simp [Function.comp_def]
theorem maxD_turn (F : Frm) (w : Str) : maxD (turnF F w) = if inW swpL w then maxA F else maxD F := by
  unfold maxA maxD turnF turnC
  cases inW swpL w <;> simp [Function.comp_def]
theorem mcA_turn (F : Frm) (w : Str) : mcA (turnF F w) = if inW swpL w then mcD F else mcA F := by
  unfold mcA mcD
  rw [maxA_turn]
  cases h : inW swpL w <;> simp [turnF, h]
theorem mcD_turn (F : Frm) (w : Str) : mcD (turnF F w) = if inW swpL w then mcA F else mcD F := by
  unfold mcA mcD
  rw [maxD_turn]
  cases h : inW swpL w <;> simp [turnF, h]
theorem FrmOk.turn {F : Frm} (ok : FrmOk F) (w : Str) : FrmOk (turnF F w) := by
  have hc : ∀ c ∈ (turnF F w).cs, ∃ c' ∈ F.cs, c = turnC (inW swpL w) c' := fun c hc => by
    obtain ⟨c', h1, h2⟩ := List.mem_map.mp hc
    exact ⟨c', h1, h2.symm⟩
  have h1 := ok.h
  have h2 := ok.w
  refine ⟨by simpa [turnF] using ok.ne, by simpa [turnF] using ok.few, fun c h => ?_, fun c h => ?_, ?_, ?_⟩
  · obtain ⟨c', h', rfl⟩ := hc c h
    have := ok.ac c' h'
    have := ok.dn c' h'
    unfold turnC
    cases inW swpL w <;> simp <;> omega
  · obtain ⟨c', h', rfl⟩ := hc c h
    have := ok.ac c' h'
    have := ok.dn c' h'
    unfold turnC
    cases inW swpL w <;> simp <;> omega
  · unfold turnF; cases inW swpL w <;> simp <;> omega
  · unfold turnF; cases inW swpL w <;> simp <;> omega
theorem shape_turn {F : Frm} {w : Str} {p : Nat} {c : Cmp} (hp : F.cs[p]? = some c) :
    (shapeOf (turnF F w))[p]? = some (if inW swpL w then ((mcD F * c.dn).toNat, (mcA F * c.ac).toNat) else ((mcA F * c.ac).toNat, (mcD F * c.dn).toNat)) := by
  unfold shapeOf
  rw [List.getElem?_map]
  have : (turnF F w).cs[p]? = some (turnC (inW swpL w) c) := by
    unfold turnF; simp only [List.getElem?_map, hp]; rfl
  rw [this, mcA_turn, mcD_turn]
  unfold turnC
  cases inW swpL w <;> simp
theorem shape_at {F : Frm} {p : Nat} {c : Cmp} (hp : F.cs[p]? = some c) : (shapeOf F)[p]? = some ((mcA F * c.ac).toNat, (mcD F * c.dn).toNat) := by
  unfold shapeOf; rw [List.getElem?_map, hp]; rfl

noncomputable def placeN (w : Str) (x y a d : Nat) : Nat × Nat := ((placeW w x y a d).1.toNat, (placeW w x y a d).2.toNat)
theorem placeN_is {w : Str} {x y a d : Nat} (hx : x < a) (hy : y < d) : (placeW w x y a d).1 = ((placeN w x y a d).1 : Int) ∧ (placeW w x y a d).2 = ((placeN w x y a d).2 : Int) ∧
    (placeN w x y a d).1 < (if inW swpL w then d else a) ∧ (placeN w x y a d).2 < (if inW swpL w then a else d) := by
  unfold placeN placeW tplace
  cases inW swpL w <;> cases inW mirL w <;> cases inW flpL w <;> simp <;> omega
theorem placeN_inj {w : Str} {x y x' y' a d : Nat} (hx : x < a) (hy : y < d) (hx' : x' < a) (hy' : y' < d) (h1 : (placeN w x y a d).1 = (placeN w x' y' a d).1) (h2 : (placeN w x y a d).2 = (placeN w x' y' a d).2) : x = x' ∧ y = y' := by
  revert h1 h2
  unfold placeN placeW tplace
  cases inW swpL w <;> cases inW mirL w <;> cases inW flpL w <;> simp <;> omega

theorem cellVal_len {σ : Store} {v : Value} {c : Cell} (h : CellIs σ v c) : (cellVal c).length = 4 := by
  cases c with
  | none => rfl
  | some l => exact h.1

noncomputable def Bd (ct : Cont) : Prop := ∀ p x y, ∀ i ∈ cellVal (ct p x y), -1000 ≤ i ∧ i ≤ 1000
theorem Bd.nones : Bd nones := fun p x y i hi => by
  have : i ∈ ([0, 0, 0, 0] : List Int) := hi
  simp at this; omega
theorem Bd.set {ct : Cont} (h : Bd ct) {p x y : Nat} {l : List Int} (hl : ∀ i ∈ l, -1000 ≤ i ∧ i ≤ 1000) : Bd (setc ct p x y (some l)) := fun p' x' y' i hi => by
  unfold setc at hi
  split at hi
  · exact hl i hi
  · exact h p' x' y' i hi
theorem getD_bd {r : List Int} (h : ∀ i ∈ r, -1000 ≤ i ∧ i ≤ 1000) (k : Nat) : -1000 ≤ r.getD k 0 ∧ r.getD k 0 ≤ 1000 := by
  rw [List.getD_eq_getElem?_getD]
  cases q : r[k]? with
  | none => simp
  | some i => exact h i (List.mem_of_getElem? q)
theorem tval_bd {s mi fl : Bool} {r : List Int} (h : ∀ i ∈ r, -1000 ≤ i ∧ i ≤ 1000) (d a : Nat) : -1000 ≤ tval s mi fl r d a ∧ tval s mi fl r d a ≤ 1000 := by
  have h1 := getD_bd h (a * 2 + d)
  have h2 := getD_bd h (d * 2 + a)
  unfold tval
  cases s <;> (simp only [Bool.false_eq_true, if_false, if_true]; repeat' split) <;> omega
theorem turn4_bd {w : Str} {r : List Int} (h : ∀ i ∈ r, -1000 ≤ i ∧ i ≤ 1000) : ∀ i ∈ turn4 w r, -1000 ≤ i ∧ i ≤ 1000 := fun i hi => by
  unfold turn4 at hi
  simp only [List.mem_cons, List.not_mem_nil, or_false] at hi
  rcases hi with rfl | rfl | rfl | rfl <;> exact tval_bd h _ _
noncomputable def Done (w : Str) (ct ct' : Cont) (p a d : Nat) (P : Nat → Nat → Prop) : Prop := ∀ x y, x < a → y < d → P x y → ct' p (placeN w x y a d).1 (placeN w x y a d).2 = some (turn4 w (cellVal (ct p x y)))

set_option maxHeartbeats 1000000 in
theorem turned_component_spec {C : CC} {σ : Store} {g h a : Addr} {F : Frm} {w : Str} {p : Nat} {c : Cmp} {ct ct0 : Cont} (hw : okData (.str w)) (hF : FrmAt σ a F) (ok : FrmOk F) (hp : F.cs[p]? = some c)
    (hg : GridAt σ g (shapeOf F) ct) (hh : GridAt σ h (shapeOf (turnF F w)) ct0) (hne : g ≠ h) (hbd : Bd ct) (hbd0 : Bd ct0) :
    Spec C 5 (.ref 482) [.ref g, .ref a, I p, S w, .ref h] σ (fun v σ' => v = .none ∧ ∃ ct', GridAt σ' h (shapeOf (turnF F w)) ct' ∧ ExtG h σ σ' ∧
      Done w ct ct' p (mcA F * c.ac).toNat (mcD F * c.dn).toNat (fun _ _ => True) ∧ (∀ p', p' ≠ p → ct' p' = ct0 p') ∧ Bd ct') := by
  refine' Spec_def (body := _ :: _) (DefOk.of' (names := [_, _, _, _, _]) (ns := [_, _, _, _, _, _, _, _, _, _, _, _, _]) ?h1 ?h2 ?h3 ?h17 ?h18 ?h4 ?h5 ?h6 ?h7 ?h8 ?h9 ?h10 ?h11 ?h12 ?h14 ?h15) ?_
  walk_at "dx"
  intro f
  have hF' := hF
  obtain ⟨dx, L, vs, h1, h2, h3, h4⟩ := hF
  obtain ⟨b1, b2⟩ := ok.sh hp
  have hlt := (List.getElem?_eq_some_iff.mp hp).1
  have hfew := ok.few
  have hsh := shape_at hp
  have hst := shape_turn (w := w) hp
  replace hst : (shapeOf (turnF F w))[p]? = some (if inW swpL w then (mcD F * c.dn).toNat else (mcA F * c.ac).toNat, if inW swpL w then (mcA F * c.ac).toNat else (mcD F * c.dn).toNat) := by
    rw [hst]; cases inW swpL w <;> rfl
  refine TX_cons (TX_AssignTup2 (TE_MethV h1 h2 rfl (mo_padded C) (TE_local (by rfl) ⟨rfl, rfl, rfl⟩) ?_))
  repeat walk_at "t"
  refine CallV_spec ((padded_spec hF' ok hp).mono fun v σ₁ hq_ => ?_)
  obtain ⟨t, e, ht, hE1⟩ := hq_
  subst e
  refine ⟨t, _, _, rfl, ht, ?_⟩
  generalize ha : mcA F * c.ac = aa at *
  generalize hdd : mcD F * c.dn = dd at *
  obtain ⟨aN, rfl⟩ := Int.eq_ofNat_of_zero_le b1.1
  obtain ⟨dN, rfl⟩ := Int.eq_ofNat_of_zero_le b2.1
  simp only [Int.toNat_natCast] at *
  repeat walk_at "t"
  refine TX_For ?_
  repeat walk_at "t"
  intro R hR
  let G : LM → Prop := fun m => m.lookup (Str.ofString "grid") = some (.ref g) ∧ m.lookup (Str.ofString "frame") = some (.ref a) ∧ m.lookup (Str.ofString "place") = some (I p) ∧ m.lookup (Str.ofString "word") = some (S w) ∧ m.lookup (Str.ofString "found") = some (.ref h) ∧
    m.lookup (Str.ofString "across") = some (I aN) ∧ m.lookup (Str.ofString "down") = some (I dN)
  let J : (Nat → Nat → Prop) → Store → Prop := fun P σ' => ∃ ct', GridAt σ' h (shapeOf (turnF F w)) ct' ∧ ExtG h σ σ' ∧ Done w ct ct' p aN dN P ∧ (∀ p', p' ≠ p → ct' p' = ct0 p') ∧ Bd ct'
  have hE1R := hE1.thenNew (o := .rng 0 dN 1) hR
  refine ⟨.rng R 0 dN 1, rangeItems 0 dN 1, fun i m₂ σ₂ => G m₂ ∧ J (fun _ y => y < i) σ₂ ∧ σ₂ R = some (.rng 0 dN 1), rfl,
    ⟨⟨rfl, rfl, rfl, rfl, rfl, rfl, rfl⟩, ⟨ct0, hh.ext hE1R, hE1R.toG h, fun x y _ _ q => absurd q (Nat.not_lt_zero _), fun _ _ => rfl, hbd0⟩, upd_self ..⟩, fun i m₂ σ₂ q => ⟨q.2.2, range_small (by omega), rfl⟩, ?_, ?_⟩
  · rintro i v m₂ σ₂ hv ⟨⟨g1, g2, g3, g4, g5, g6, g7⟩, ⟨ct2, hh2, hE2, hD2, hR2, hB2⟩, hRR⟩
    obtain ⟨hi, rfl⟩ := rangeItems_get hv
    repeat walk_at "t"
    refine TX_For ?_
    repeat walk_at "t"
    intro R' hR'
    have hEE := Ext.new (o := .rng 0 aN 1) hR'
    refine ⟨.rng R' 0 aN 1, rangeItems 0 aN 1, fun j m₃ σ₃ => G m₃ ∧ m₃.lookup (Str.ofString "y") = some (I i) ∧ J (fun x y => y < i ∨ (y = i ∧ x < j)) σ₃ ∧ σ₃ R = some (.rng 0 dN 1) ∧ σ₃ R' = some (.rng 0 aN 1), rfl,
      ⟨⟨by walk_at "lk", by walk_at "lk", by walk_at "lk", by walk_at "lk", by walk_at "lk", by walk_at "lk", by walk_at "lk"⟩, by walk_at "lk", ⟨ct2, hh2.ext hEE, hE2.trans (hEE.toG h), fun x y hx hy q => hD2 x y hx hy (by omega), hR2, hB2⟩, hEE _ _ hRR, upd_self ..⟩,
      fun j m₃ σ₃ q => ⟨q.2.2.2.2, range_small (by omega), rfl⟩, ?_, ?_⟩
    · rintro j v m₃ σ₃ hv ⟨⟨f1, f2, f3, f4, f5, f6, f7⟩, f8, ⟨ct3, hh3, hE3, hD3, hR3, hB3⟩, hRR3, hRR3'⟩
      obtain ⟨hj, rfl⟩ := rangeItems_get hv
      obtain ⟨p1, p2, p3, p4⟩ := placeN_is (w := w) (x := j) (y := i) hj hi
      repeat walk_at "t"
      refine CallV_spec ((turned_place_spec hw).mono fun v σ₄ hq_ => ?_)
      obtain ⟨t, e, ht, hE4⟩ := hq_
      subst e
      rw [p1, p2] at ht
      have hE34 := hE3.trans (hE4.toG h)
      have hg4 := hg.extG hE34 hne
      have hF4 := hF'.extG hE34
      have hh4 := hh3.ext hE4
      have hg4' := hg4
      have hh4' := hh4
      obtain ⟨gx, gA, gpl, z1, z2, _⟩ := hg4'
      obtain ⟨hx, hA, hpl, y1, y2, _⟩ := hh4'
      refine Seq_next (TX_cons (TX_Expr (TE_MethV y1 y2 rfl (mo_put C) (TE_local (by walk_at "lk") ⟨rfl, rfl, rfl⟩) ?_)))
      repeat walk_at "t"
      refine ⟨t, 0, _, rfl, rfl, by decide, by decide, .inr ⟨_, ht, rfl⟩, ?_⟩
      repeat walk_at "t"
      refine ⟨t, 1, _, rfl, rfl, by decide, by decide, .inr ⟨_, ht, rfl⟩, ?_⟩
      repeat walk_at "t"
      refine TE_MethV z1 z2 rfl (mo_get C) (TE_local (by walk_at "lk") ⟨rfl, rfl, rfl⟩) ?_
      repeat walk_at "t"
      have hcell := hg4.cell hsh hj hi
      obtain ⟨_, _, _, _, _, _, _, u, _, _, _, _, _, _, _, _, hu, _⟩ := hcell
      refine CallV_spec ((get_spec hg4 hsh hj hi ⟨by omega, by omega, by omega⟩).mono fun v σ₅ hq_ => ?_)
      obtain ⟨b, e, hb, hE5⟩ := hq_
      subst e
      have hF5 := hF4.ext hE5
      have hF5' := hF5
      obtain ⟨fx, fL, fvs, k1, k2, _⟩ := hF5'
      repeat walk_at "t"
      refine TE_AttrV k1 k2 rfl (ao_n C) (by intro _ q; cases q) ?_ (TE_local (by walk_at "lk") ⟨rfl, rfl, rfl⟩)
      repeat walk_at "t"
      refine CallV_spec ((turned_row_spec hw (cellVal_len hu) hb).mono fun v σ₆ hq_ => ?_)
      obtain ⟨b', e, hb', hE6⟩ := hq_
      subst e
      repeat walk_at "t"
      have hE46 := hE5.trans hE6
      refine CallV_spec ((put_spec (hh4.ext hE46) hst p3 p4 ⟨by split <;> omega, by split <;> omega, by omega⟩ hb' rfl).mono fun v σ₇ hq_ => ?_)
      obtain ⟨e, hh7, hE7⟩ := hq_
      refine ⟨e, ?_⟩
      have hE47 := (hE46.toG h).trans hE7
      repeat walk_at "t"
      refine ⟨⟨by walk_at "lk", by walk_at "lk", by walk_at "lk", by walk_at "lk", by walk_at "lk", by walk_at "lk", by walk_at "lk"⟩, by walk_at "lk", ⟨_, hh7, hE34.trans hE47, fun x y hx hy q => ?_, fun p' hp' => ?_, hB3.set (turn4_bd (hbd p j i))⟩, ?_, ?_⟩
      · unfold setc
        by_cases hxy : x = j ∧ y = i
        · obtain ⟨rfl, rfl⟩ := hxy
          rw [if_pos ⟨rfl, rfl, rfl⟩]
        · rw [if_neg]
          · exact hD3 x y hx hy (by omega)
          · rintro ⟨_, q1, q2⟩
            exact hxy (placeN_inj hx hy hj hi q1 q2)
      · have := hR3 p' hp'
        funext x y
        unfold setc
        rw [if_neg (fun q => hp' q.1), this]
      · exact hE47 _ _ (hE4 _ _ hRR3) (fun _ _ _ q => by cases q)
      · exact hE47 _ _ (hE4 _ _ hRR3') (fun _ _ _ q => by cases q)
    · rintro m₃ σ₃ ⟨f, f8, ⟨ct3, hh3, hE3, hD3, hR3, hB3⟩, hRR3, hRR3'⟩
      rw [rangeItems_len] at hD3
      exact Seq_next (TX_nil ⟨f, ⟨ct3, hh3, hE3, fun x y hx hy q => hD3 x y hx hy (by omega), hR3, hB3⟩, hRR3⟩)
  · rintro m₂ σ₂ ⟨g, ⟨ct2, hh2, hE2, hD2, hR2, hB2⟩, hRR⟩
    rw [rangeItems_len] at hD2
    exact Seq_next (TX_nil ⟨rfl, ct2, hh2, hE2, fun x y hx hy _ => hD2 x y hx hy hy, hR2, hB2⟩)

set_option maxHeartbeats 400000 in
theorem check_word_spec {C : CC} {σ : Store} {w : Str} (hw : okData (.str w)) (h : inW wrdL w = true) : Spec C 1 (.ref 440) [S w] σ (fun v σ' => v = .none ∧ σ' = σ) := by
  refine' Spec_def (body := _ :: _) (DefOk.of' (names := [_]) (ns := [_, _, _, _]) ?h1 ?h2 ?h3 ?h17 ?h18 ?h4 ?h5 ?h6 ?h7 ?h8 ?h9 ?h10 ?h11 ?h12 ?h14 ?h15) ?_
  walk_at "dx"
  intro f
  repeat walk_at "t"
  walk_at "w"
  repeat walk_at "t"
  refine iteF (by rw [h]; decide) ?_
  repeat walk_at "t"
  exact ⟨rfl, rfl⟩

noncomputable def AllDone (F : Frm) (w : Str) (ct ct' : Cont) : Prop := ∀ p c, F.cs[p]? = some c → Done w ct ct' p (mcA F * c.ac).toNat (mcD F * c.dn).toNat (fun _ _ => True)

set_option maxHeartbeats 1000000 in
theorem turned_grid_spec {C : CC} {σ : Store} {g a : Addr} {F : Frm} {w : Str} {ct : Cont} (hw : okData (.str w)) (hwd : inW wrdL w = true) (hwh : wholeW F w = true) (hF : FrmAt σ a F) (ok : FrmOk F) (hg : GridAt σ g (shapeOf F) ct) (hbd : Bd ct) :
    Spec C 6 (.ref 489) [.ref g, .ref a, S w] σ (fun v σ' => ∃ t b h ct', v = .ref t ∧ σ' t = some (.tup [.ref b, .ref h]) ∧ FrmAt σ' b (turnF F w) ∧ GridAt σ' h (shapeOf (turnF F w)) ct' ∧ AllDone F w ct ct' ∧ Bd ct' ∧ σ h = none ∧ ExtG h σ σ') := by
  refine' Spec_def (body := _ :: _) (DefOk.of' (names := [_, _, _]) (ns := [_, _, _, _, _, _, _, _, _, _, _, _, _, _]) ?h1 ?h2 ?h3 ?h17 ?h18 ?h4 ?h5 ?h6 ?h7 ?h8 ?h9 ?h10 ?h11 ?h12 ?h14 ?h15) ?_
  walk_at "dx"
  intro f
  repeat walk_at "t"
  refine CallV_spec ((check_word_spec hw hwd).mono fun v σ₁ hq_ => ?_)
  obtain ⟨e, e'⟩ := hq_
  rw [e']
  refine ⟨e, ?_⟩
  repeat walk_at "t"
  refine CallV_spec ((is_whole_spec hw hF ok).mono fun v σ₁ hq_ => ?_)
  obtain ⟨e, hE1⟩ := hq_
  subst e
  repeat walk_at "t"
  refine iteF (by rw [hwh]; decide) ?_
  repeat walk_at "t"
  refine CallV_spec ((turned_frame_spec hw (hF.ext hE1) ok).mono fun v σ₂ hq_ => ?_)
  obtain ⟨b, e, hb, hE2⟩ := hq_
  subst e
  repeat walk_at "t"
  refine CallV_spec ((grid_new_spec hb (ok.turn w)).mono fun v σ₃ hq_ => ?_)
  obtain ⟨h, e, hn, hh, hE3⟩ := hq_
  subst e
  repeat walk_at "t"
  refine TX_For ?_
  repeat walk_at "t"
  have hE13 := (hE1.trans hE2).trans hE3
  have hF3 := hF.ext hE13
  have hF3' := hF3
  obtain ⟨dx, L, vs, h1, h2, h3, h4⟩ := hF3'
  have hfew := ok.few
  have hlen : vs.length ≤ 1000 := by rw [h4.1]; omega
  refine TE_AttrV h1 h2 rfl (ao_components C) (by intro _ q; cases q) ?_ (TE_local (by rfl) ⟨rfl, rfl, rfl⟩)
  repeat walk_at "t"
  refine CallV_lenL h3 hlen ?_
  repeat walk_at "t"
  intro R hR
  have hER := Ext.new (o := .rng 0 vs.length 1) hR
  have hgh : g ≠ h := by
    obtain ⟨gx, _, _, q, _⟩ := hg
    exact ne_new (hE2 _ _ (hE1 _ _ q)) hn
  have hn0 : σ h = none := none_of (hE1.trans hE2) hn
  let G : LM → Prop := fun m => m.lookup (Str.ofString "grid") = some (.ref g) ∧ m.lookup (Str.ofString "frame") = some (.ref a) ∧ m.lookup (Str.ofString "word") = some (S w) ∧ m.lookup (Str.ofString "later") = some (.ref b) ∧ m.lookup (Str.ofString "found") = some (.ref h)
  refine ⟨.rng R 0 vs.length 1, rangeItems 0 vs.length 1, fun k m₂ σ₄ => G m₂ ∧ σ₄ R = some (.rng 0 vs.length 1) ∧ FrmAt σ₄ b (turnF F w) ∧ ExtG h σ σ₄ ∧ ∃ ct', GridAt σ₄ h (shapeOf (turnF F w)) ct' ∧
      (∀ p c, p < k → F.cs[p]? = some c → Done w ct ct' p (mcA F * c.ac).toNat (mcD F * c.dn).toNat (fun _ _ => True)) ∧ Bd ct', rfl,
    ⟨⟨rfl, rfl, rfl, rfl, rfl⟩, upd_self .., (hb.ext hE3).ext hER, (hE13.trans hER).toG h, nones, hh.ext hER, fun p c q => absurd q (Nat.not_lt_zero _), Bd.nones⟩, fun k m₂ σ₄ q => ⟨q.2.1, range_small hlen, rfl⟩, ?_, ?_⟩
  · rintro k v m₂ σ₄ hv ⟨⟨g1, g2, g3, g4, g5⟩, hRk, hb4, hE4, ct4, hh4, hD4, hB4⟩
    obtain ⟨hk, rfl⟩ := rangeItems_get hv
    have hkc : k < F.cs.length := by rw [← h4.1]; exact hk
    have hc : F.cs[k]? = some F.cs[k] := List.getElem?_eq_getElem hkc
    repeat walk_at "t"
    refine CallV_spec ((turned_component_spec hw (hF.extG hE4) ok hc (hg.extG hE4 hgh) hh4 hgh hbd hB4).mono fun v σ₅ hq_ => ?_)
    obtain ⟨e, ct5, hh5, hE5, hD5, hR5, hB5⟩ := hq_
    refine ⟨e, ?_⟩
    repeat walk_at "t"
    refine ⟨⟨by walk_at "lk", by walk_at "lk", by walk_at "lk", by walk_at "lk", by walk_at "lk"⟩, hE5 _ _ hRk (fun _ _ _ q => by cases q), hb4.extG hE5, hE4.trans hE5, ct5, hh5, fun p c hp hpc => ?_, hB5⟩
    by_cases hpk : p = k
    · subst hpk
      rw [hc] at hpc
      cases hpc
      exact hD5
    · have := hD4 p c (by omega) hpc
      intro x y hx hy q
      rw [hR5 p hpk]
      exact this x y hx hy q
  · rintro m₂ σ₄ ⟨⟨g1, g2, g3, g4, g5⟩, hRk, hb4, hE4, ct4, hh4, hD4, hB4⟩
    repeat walk_at "t"
    refine ⟨by simp, fun t ht => ?_⟩
    have hEt := Ext.new (o := .tup [.ref b, .ref h]) ht
    refine ⟨t, b, h, ct4, rfl, upd_self .., hb4.ext hEt, hh4.ext hEt, fun p c hpc => hD4 p c ?_ hpc, hB4, hn0, hE4.trans (hEt.toG h)⟩
    rw [rangeItems_len, h4.1]
    exact (List.getElem?_eq_some_iff.mp hpc).1

section
variable {n : Nat} {ns : List (Str × NameKind)} {C : CC} {f : Fx n ns} {m : LM} {σ : Store}
theorem Op2_pow {i j : Int} {Q : Value → LM → Store → Prop} (hj : 0 ≤ j) (hsz : (Builtin.Int.intBits i : Int) * j ≤ 2 ^ 27) (h : Q (I (i ^ j.toNat)) m σ) : Op2 C f m σ (binaryOp .Pow) (I i) (I j) Q := fun u v hu hv => by
  obtain ⟨_, rfl⟩ := er_int hu
  obtain ⟨_, rfl⟩ := er_int hv
  exact fun _ _ _ hs => pow_int hj hsz ⟨m, σ, hs.toks rfl rfl rfl, fun _ _ => rfl, h⟩
theorem St.topList {Fz : Addr → Prop} {s : Shared} {l : Addr} {items : Array Value} (hs : St C Fz f m σ s) (hl : C.top.IsList l items) : s.heap.IsList l items := by
  obtain ⟨o, ho, r⟩ := hl; exact ⟨o, hs.keep _ _ ho, r⟩
theorem CallV_lenT {l : Addr} {items : Array Value} {Q : Value → LM → Store → Prop} (hl : C.top.IsList l items) (hz : (items.size : Int) < 2 ^ 63) (h : Q (I items.size) m σ) : CallV C f m σ (.builtin "len") [.ref l] Q := fun ws hws hA Fz s hs => by
  obtain ⟨u, rfl, hu⟩ := map_er1 hws
  rw [er_ref hu]
  exact call_len_list (St.topList hs hl) hz ⟨m, σ, hs.toks rfl rfl rfl, fun _ _ => rfl, h⟩
theorem TE_SubT {o i : Expr} {pos : Pos} {Q : Value → LM → Store → Prop}
    (h : TE C f m σ o (fun ov m₁ σ₁ => TE C f m₁ σ₁ i (fun iv m₂ σ₂ => ∃ (a : Addr) (items : Array Value) (k : Int) (u : Value), ov = .ref a ∧ iv = I k ∧ 0 ≤ k ∧ k < 2 ^ 62 ∧ C.top.IsList a items ∧ items[k.toNat]? = some u ∧ Q (er u) m₂ σ₂)))
    (hs : ∀ a k u, subscripted i false (.ref a) (.int k u) = operate [.ref a, .int k u] (getItem (.ref a) (.int k u)) := by (intro _ _ _; with_unfolding_all rfl)) : TE C f m σ (.Subscript o i pos) Q := fun ha Fz s hst => by
  refine Subscript_ (h.run ha hst fun ov m₁ σ₁ s₁ h1 k1 q1 => q1.run ha h1 fun iv m₂ σ₂ s₂ h2 k2 q2 => ?_)
  obtain ⟨a, items, k, u, e1, e2, h0, hh, hl, hu, q2⟩ := q2
  have e1 := er_ref e1
  obtain ⟨t, e2⟩ := er_int e2
  subst e1 e2
  have il := St.topList h2 hl
  exact tail_any il.typeIs slot_list_getitem.lookup (wpAny_getItem_list il h0 (by omega) hu ⟨m₂, σ₂, h2, fun b hb => (k2 b hb).trans (k1 b hb), q2⟩) (hs _ _ _)
end

noncomputable def ExtS (σ σ' : Store) : Prop := ∀ a o, σ a = some o → (∀ vs, o ≠ .list .src vs) → σ' a = some o
theorem Ext.toS {σ σ' : Store} (h : Ext σ σ') : ExtS σ σ' := fun a o e _ => h a o e
theorem ExtS.trans {a b c : Store} (h : ExtS a b) (k : ExtS b c) : ExtS a c := fun x o e n => k x o (h x o e n) n
noncomputable def SrcAt (σ : Store) (a : Addr) : Prop := ∃ s0 s1, σ a = some (.list .src [I s0, I s1]) ∧ 0 ≤ s1 ∧ s1 < 2147483647
theorem SrcAt.ext {σ σ' : Store} {a : Addr} (h : SrcAt σ a) (k : Ext σ σ') : SrcAt σ' a := by
  obtain ⟨s0, s1, h1, h2⟩ := h; exact ⟨s0, s1, k _ _ h1, h2⟩
theorem SrcAt.extG {g : Nat} {σ σ' : Store} {a : Addr} (h : SrcAt σ a) (k : ExtG g σ σ') : SrcAt σ' a := by
  obtain ⟨s0, s1, h1, h2⟩ := h; exact ⟨s0, s1, k _ _ h1 (fun _ _ _ q => by cases q), h2⟩

noncomputable def ScriptAt (C : CC) (l : Addr) : Prop := ∃ items : Array Value, C.top.IsList l items ∧ (items.size : Int) < 2 ^ 63 ∧ ∀ (k : Nat) (u : Value), items[k]? = some u → ∃ i t, u = .int i t

theorem fmod_bd (x : Int) {j : Int} (hj : 0 < j) : 0 ≤ x.fmod j ∧ x.fmod j < j := by
  rw [Int.fmod_eq_emod_of_nonneg _ (by omega)]
  exact ⟨Int.emod_nonneg _ (by omega), Int.emod_lt_of_pos _ hj⟩
set_option maxHeartbeats 1000000 in
theorem pool_spec {C : CC} {σ : Store} {l : Addr} (hl : ScriptAt C l) : Spec C 1 (.ref 496) [.ref l, I 0] σ (fun v σ' => ∃ a s0 s1, v = .ref a ∧ σ' a = some (.list .plain [I s0, I s1]) ∧ 0 ≤ s1 ∧ s1 < 2147483647 ∧ σ a = none ∧ Ext σ σ') := by
  refine' Spec_def (body := _ :: _) (DefOk.of' (names := [_, _]) (ns := [_, _, _, _, _, _, _, _]) ?h1 ?h2 ?h3 ?h17 ?h18 ?h4 ?h5 ?h6 ?h7 ?h8 ?h9 ?h10 ?h11 ?h12 ?h14 ?h15) ?_
  walk_at "dx"
  intro f
  obtain ⟨items, h1, h2, h3⟩ := hl
  refine TX_cons (TX_Assign (TE_int ?_))
  refine Seq_next (TX_cons (TX.mono (Q := fun fl m σ₁ => fl = .next ∧ σ₁ = σ ∧ m.lookup (Str.ofString "k") = some (I 0) ∧ ∃ c, m.lookup (Str.ofString "cell") = some (I c)) ?_ ?_))
  · refine TX_If ?_
    repeat walk_at "t"
    refine CallV_lenT h1 h2 ?_
    repeat walk_at "t"
    refine iteB (fun hb => ?_) (fun hb => ?_)
    · have hlt : 0 < items.size := by simpa using hb
      obtain ⟨i, t, hi⟩ := h3 0 items[0] (by simp [hlt])
      refine TX_cons (TX_Assign (TE_SubT ?_))
      repeat walk_at "t"
      refine ⟨l, items, 0, items[0], rfl, rfl, by decide, by decide, h1, by simp [hlt], ?_⟩
      rw [hi]
      repeat walk_at "t"
      exact ⟨rfl, rfl, rfl, i, rfl⟩
    · repeat walk_at "t"
      exact ⟨rfl, rfl, rfl, 0, rfl⟩
  rintro fl m σ₁ ⟨rfl, e, e1, c, e2⟩
  rw [e]
  repeat walk_at "t"
  refine Op2_pow (by decide) (by decide) ?_
  repeat walk_at "t"
  refine ⟨by simp, fun a ha => ?_⟩
  obtain ⟨b1, b2⟩ := fmod_bd (((max c (-1 - c)).fmod 2147483629 + 7919 * 0 * 0 + 31 * 0 + 17) * 48271) (show (0 : Int) < 2147483647 by decide)
  exact ⟨a, _, _, rfl, upd_self .., b1, b2, ha, Ext.new ha⟩

set_option maxHeartbeats 1000000 in
theorem take_spec {C : CC} {σ : Store} {a : Addr} {top : Int} (ht : 1 ≤ top) (ht' : top ≤ 1000) (h : SrcAt σ a) : Spec C 1 (.ref 503) [.ref a, I top] σ (fun v σ' => ∃ t, v = I t ∧ 0 ≤ t ∧ t < top ∧ SrcAt σ' a ∧ ExtS σ σ') := by
  refine' Spec_def (body := _ :: _) (DefOk.of' (names := [_, _]) (ns := [_, _, _, _]) ?h1 ?h2 ?h3 ?h17 ?h18 ?h4 ?h5 ?h6 ?h7 ?h8 ?h9 ?h10 ?h11 ?h12 ?h14 ?h15) ?_
  walk_at "dx"
  intro f
  obtain ⟨s0, s1, h1, h2, h3⟩ := h
  have hX : ∀ vs, ExtS σ (upd σ a (.list .src vs)) := fun vs b o hb ho => upd_some hb (fun z => by subst z; rw [h1] at hb; cases hb; exact ho _ rfl)
  refine TX_cons (TX.mono (Q := fun fl m' σ' => (fl = .next ∧ σ' = σ ∧ m' = [(Str.ofString "source", .ref a), (Str.ofString "top", I top)]) ∨ ∃ t, fl = .ret (I t) ∧ 0 ≤ t ∧ t < top ∧ SrcAt σ' a ∧ ExtS σ σ') ?_ ?_)
  · refine TX_If ?_
    repeat walk_at "t"
    refine ⟨a, 0, _, rfl, rfl, by decide, by decide, .inl ⟨_, _, h1, rfl⟩, ?_⟩
    repeat walk_at "t"
    refine iteB (fun hb => ?_) (fun hb => ?_)
    · repeat walk_at "t"
      refine ⟨a, 0, _, rfl, rfl, by decide, by decide, .inl ⟨_, _, h1, rfl⟩, ?_⟩
      repeat walk_at "t"
      refine ⟨a, 0, _, rfl, rfl, by decide, by decide, .inl ⟨_, _, h1, rfl⟩, ?_⟩
      repeat walk_at "t"
      refine Op2_floordiv (by omega) (by omega) ?_
      repeat walk_at "t"
      refine ⟨a, 0, _, _, rfl, rfl, by decide, by decide, h1, by simp, ?_⟩
      repeat walk_at "t"
      obtain ⟨b1, b2⟩ := fmod_bd s0 (show (0 : Int) < top by omega)
      exact .inr ⟨_, rfl, b1, b2, ⟨_, s1, upd_self .., h2, h3⟩, hX _⟩
    · repeat walk_at "t"
      exact .inl ⟨rfl, rfl, rfl⟩
  rintro fl m' σ' (⟨rfl, e1, e2⟩ | ⟨t, rfl, b1, b2, b3, b4⟩)
  · rw [e1, e2]
    repeat walk_at "t"
    refine ⟨a, 1, _, rfl, rfl, by decide, by decide, .inl ⟨_, _, h1, rfl⟩, ?_⟩
    repeat walk_at "t"
    obtain ⟨c1, c2⟩ := fmod_bd (s1 * 39373 + 7) (show (0 : Int) < 2147483647 by decide)
    refine ⟨a, 1, _, _, rfl, rfl, by decide, by decide, h1, by simp, ?_⟩
    show Seq C f _ _ Flow.next _ (upd σ a (.list .src [I s0, I ((s1 * 39373 + 7).fmod 2147483647)]))
    generalize (s1 * 39373 + 7).fmod 2147483647 = z at *
    repeat walk_at "t"
    refine ⟨a, 1, I z, rfl, rfl, by decide, by decide, .inl ⟨_, _, upd_self .., rfl⟩, ?_⟩
    repeat walk_at "t"
    refine ⟨a, 1, I z, rfl, rfl, by decide, by decide, .inl ⟨_, _, upd_self .., rfl⟩, ?_⟩
    refine Op2_mul (IntMulOk.of_left (intBits_le_64 (by omega) (by omega))) ?_
    repeat walk_at "t"
    refine Op2_floordiv (by decide) (by decide) ?_
    repeat walk_at "t"
    obtain ⟨b1, b2⟩ := fmod_bd (((z * z).fmod 2147483629).fdiv 32) (show (0 : Int) < top by omega)
    exact ⟨_, rfl, b1, b2, ⟨s0, z, upd_self .., c1, c2⟩, hX _⟩
  · exact Seq_ret ⟨t, rfl, b1, b2, b3, b4⟩

set_option maxHeartbeats 400000 in
theorem one_spec {C : CC} {σ : Store} {a L : Addr} {vs : List Value} (h : SrcAt σ a) (hL : σ L = some (.list .plain vs)) (hne : vs ≠ []) (hlen : vs.length ≤ 100) :
    Spec C 2 (.ref 510) [.ref a, .ref L] σ (fun v σ' => v ∈ vs ∧ SrcAt σ' a ∧ ExtS σ σ') := by
  refine' Spec_def (body := _ :: _) (DefOk.of' (names := [_, _]) (ns := [_, _, _, _]) ?h1 ?h2 ?h3 ?h17 ?h18 ?h4 ?h5 ?h6 ?h7 ?h8 ?h9 ?h10 ?h11 ?h12 ?h14 ?h15) ?_
  walk_at "dx"
  intro f
  have hpos : 0 < vs.length := List.length_pos_iff.mpr hne
  repeat walk_at "t"
  refine CallV_lenL hL (by omega) ?_
  repeat walk_at "t"
  refine CallV_spec ((take_spec (by omega) (by omega) h).mono fun v σ' hq_ => ?_)
  obtain ⟨t, e, b1, b2, hs, hE⟩ := hq_
  subst e
  have hlt : t.toNat < vs.length := by omega
  exact ⟨L, t, vs[t.toNat], rfl, rfl, b1, by omega, .inl ⟨_, vs, hE _ _ hL (fun _ q => by cases q), by simp [hlt]⟩, List.getElem_mem _, hs, hE⟩

theorem CmpAt.extS {σ σ' : Store} {a : Addr} {c : Cmp} (h : CmpAt σ a c) (e : ExtS σ σ') : CmpAt σ' a c := by
  obtain ⟨dx, h1, h2⟩ := h; exact ⟨dx, e _ _ h1 (fun _ q => by cases q), e _ _ h2 (fun _ q => by cases q)⟩
theorem CmpsAt.extS {σ σ' : Store} {vs : List Value} {cs : List Cmp} (h : CmpsAt σ vs cs) (e : ExtS σ σ') : CmpsAt σ' vs cs :=
  ⟨h.1, fun i v c h1 h2 => let ⟨a, e1, e2⟩ := h.2 i v c h1 h2; ⟨a, e1, e2.extS e⟩⟩
theorem FrmAt.extS {σ σ' : Store} {a : Addr} {F : Frm} (h : FrmAt σ a F) (e : ExtS σ σ') : FrmAt σ' a F := by
  obtain ⟨dx, L, vs, h1, h2, h3, h4⟩ := h
  exact ⟨dx, L, vs, e _ _ h1 (fun _ q => by cases q), e _ _ h2 (fun _ q => by cases q), e _ _ h3 (fun _ q => by cases q), h4.extS e⟩
theorem CellIs.extS {σ σ' : Store} {v : Value} : ∀ {c : Cell}, CellIs σ v c → ExtS σ σ' → CellIs σ' v c
  | none, h, _ => h
  | some _, ⟨hl, a, e, h⟩, k => ⟨hl, a, e, k _ _ h (fun _ q => by cases q)⟩
theorem GridAt.extS {g : Nat} {σ σ' : Store} {sh : Shape} {ct : Cont} (h : GridAt σ g sh ct) (k : ExtS σ σ') : GridAt σ' g sh ct := by
  obtain ⟨dx, A, pl, h1, h2, h3, h4⟩ := h
  refine ⟨dx, A, pl, k _ _ h1 (fun _ q => by cases q), k _ _ h2 (fun _ q => by cases q), k _ _ h3 (fun _ q => by cases q), h4.1, fun p v a d e1 e2 => ?_⟩
  obtain ⟨P, rows, e1, e2, e3, e4⟩ := h4.2 p v a d e1 e2
  refine ⟨P, rows, e1, k _ _ e2 (fun _ q => by cases q), e3, fun y u hu => ?_⟩
  obtain ⟨R, vs, z1, z2, z3, z4⟩ := e4 y u hu
  exact ⟨R, vs, z1, k _ _ z2 (fun _ q => by cases q), z3, fun x u hu => (z4 x u hu).extS k⟩

theorem CmpsAt.one {σ : Store} {x : Addr} {c : Cmp} (h : CmpAt σ x c) : CmpsAt σ [.ref x] [c] := ⟨rfl, fun i v d h1 h2 => by
  rw [List.getElem?_singleton] at h1 h2
  split at h1
  · rename_i hz
    subst hz
    cases h1; cases h2
    exact ⟨x, rfl, h⟩
  · cases h1⟩

theorem TE_maxAttr {n : Nat} {ns : List (Str × NameKind)} {C : CC} {f : Fx n ns} {m : LM} {σ : Store} {x name : Str} {p1 p2 p3 p4 p5 p6 : Pos} {iter : Expr} {scope : Scope} {Q : Value → LM → Store → Prop} {gt : Cmp → Int} {L : Addr} {vs : List Value} {cs : List Cmp} {r : Role}
    (ok : ScopeOk ns scope) (hfree : ∀ y, (y, NameKind.free) ∉ scope.names) (hx : (relabelNs ns scope.names).lookup x = some .local) (hmx : ns.lookup (Str.ofString "max") = some .globalImplicit)
    (hdb : (x == ("__debug__" : Str)) = false) (hs : ∀ x, foldedSetIterable iter f.env x = pure x)
    (hL : σ L = some (.list r vs)) (hcs : CmpsAt σ vs cs) (hne : cs ≠ []) (hpos : ∀ c ∈ cs, 0 < gt c) (hlen : cs.length ≤ 100)
    (ao : AttrOk (KK C.w.params) 82 name) (hf : ∀ c, (cmpFields c).lookup name = some (I (gt c)))
    (hi : TE C f m σ iter (fun v m₁ σ₁ => v = .ref L ∧ m₁ = m ∧ σ₁ = σ))
    (h : ∀ σ', Ext σ σ' → Q (I (maxOf (cs.map gt))) m σ') : TE C f m σ (.Call (.Name (Str.ofString "max") p1) [.ListComp (.Attribute (.Name x p2) name p3) [⟨.Name x p4, iter, [], 0⟩] scope p5] [] p6) Q := by
  refine TE_Call (TE_bi (by k_is) (by boot_by_name) ?_ (by decide) hmx)
  refine ⟨.bi, ?_⟩
  refine TArgs_cons (TE_ListMap (fun _ i w _ => ∃ c, cs[i]? = some c ∧ w = I (gt c)) cs.length (by omega) ok (fun y hy => absurd hy (hfree y)) hx (fun _ _ _ _ _ _ h => h) ?_ hs)
  refine TE.mono hi fun v m₁ σ₁ hq_ => ?_
  obtain ⟨e1, e2, e3⟩ := hq_
  subst e1 e2
  rw [e3]
  refine ⟨rfl, Ext.refl _, .lst L, vs, rfl, ⟨r, hL⟩, hcs.1, fun D hD => ⟨fun fc i v m₂ σ₂ hv hm hE _ => ?_, fun σ₂ ws hE hw hl hP => ?_⟩⟩
  · have hlt : i < cs.length := by rw [← hcs.1]; exact (List.getElem?_eq_some_iff.mp hv).1
    obtain ⟨x', rfl, dc, k1, k2⟩ := hcs.2 i v cs[i] hv (by simp [hlt])
    exact TE_AttrV (hE _ _ k1) (hE _ _ k2) (hf _) ao (by intro _ q; cases q) ⟨rfl, Ext.refl _, cs[i], by simp [hlt], rfl⟩ (TE_local lookup_cons_eq ⟨rfl, rfl, rfl⟩ hx hdb)
  · refine TArgs_nil ?_
    have e : ws = (cs.map gt).map I := by
      apply List.ext_getElem?
      intro i
      cases q : ws[i]? with
      | none =>
        have := List.getElem?_eq_none_iff.mp q
        rw [List.getElem?_eq_none_iff.mpr (by simp; omega)]
      | some w =>
        obtain ⟨c, hc, rfl⟩ := hP i w q
        simp [hc]
    refine CallV_maxL (is := cs.map gt) (by rw [← e]; exact hw) (by simpa using hne) fun M hM hb => ?_
    have : M = maxOf (cs.map gt) := maxOf_is (fun x hx => by obtain ⟨c, hc, rfl⟩ := List.mem_map.mp hx; exact hpos c hc) hM hb
    subst this
    exact h _ hE

set_option maxHeartbeats 2000000 in
theorem law_frame_spec {C : CC} {σ : Store} {a : Addr} (hs : SrcAt σ a) : Spec C 3 (.ref 515) [.ref a] σ (fun v σ' => ∃ b F, v = .ref b ∧ FrmAt σ' b F ∧ FrmOk F ∧ SrcAt σ' a ∧ ExtS σ σ') := by
  refine' Spec_def (body := _ :: _) (DefOk.of' (names := [_]) (ns := [_, _, _, _, _, _, _, _, _, _]) ?h1 ?h2 ?h3 ?h17 ?h18 ?h4 ?h5 ?h6 ?h7 ?h8 ?h9 ?h10 ?h11 ?h12 ?h14 ?h15) ?_
  walk_at "dx"
  intro f
  repeat walk_at "t"
  refine CallV_spec ((take_spec (by omega) (by omega) hs).mono fun v σ₁ hq_ => ?_)
  obtain ⟨t1, e, b1, b2, hs1, hE1⟩ := hq_
  subst e
  repeat walk_at "t"
  refine CallV_spec ((take_spec (by omega) (by omega) hs1).mono fun v σ₂ hq_ => ?_)
  obtain ⟨t2, e, b3, b4, hs2, hE2⟩ := hq_
  subst e
  repeat walk_at "t"
  refine CallV_spec ((take_spec (by omega) (by omega) hs2).mono fun v σ₃ hq_ => ?_)
  obtain ⟨t3, e, b5, b6, hs3, hE3⟩ := hq_
  subst e
  repeat walk_at "t"
  refine CallV_spec ((cmp_new_spec _ _ _ _).mono fun v σ₄ hq_ => ?_)
  obtain ⟨x, e, hx, hE4⟩ := hq_
  subst e
  repeat walk_at "t"
  refine ⟨by simp, fun M hM => ?_⟩
  have hEM := Ext.new (o := .list .plain [.ref x]) hM
  have hs4 := (hs3.ext hE4).ext hEM
  have hE14 := (((hE1.trans hE2).trans hE3).trans hE4.toS).trans hEM.toS
  have hx4 := CmpsAt.one (hx.ext hEM)
  have hM4 := upd_self σ₄ M (.list .plain [.ref x])
  generalize upd σ₄ M (.list .plain [.ref x]) = σ₅ at *
  refine Seq_next (TX_cons (TX.mono (Q := fun fl m' σ' => fl = .next ∧ m' = [(Str.ofString "components", .ref M), (Str.ofString "source", .ref a)] ∧ SrcAt σ' a ∧ ExtS σ σ' ∧ ∃ cs vs, σ' M = some (.list .plain vs) ∧ CmpsAt σ' vs cs ∧ cs ≠ [] ∧ cs.length ≤ 2 ∧
      ∀ c ∈ cs, 1 ≤ c.ac ∧ c.ac ≤ 2 ∧ 1 ≤ c.dn ∧ c.dn ≤ 2) ?_ ?_))
  · refine TX_If ?_
    repeat walk_at "t"
    refine CallV_spec ((take_spec (by omega) (by omega) hs4).mono fun v σ₆ hq_ => ?_)
    obtain ⟨t4, e, _, _, hs6, hE6⟩ := hq_
    subst e
    have hM6 := hE6 _ _ hM4 (fun _ q => by cases q)
    have hx6 := hx4.extS hE6
    repeat walk_at "t"
    refine iteB (fun hb => ?_) (fun hb => ?_)
    · refine TX_cons (TX_Expr (TE_append ?_))
      repeat walk_at "t"
      refine ⟨M, _, _, rfl, hM6, ?_⟩
      repeat walk_at "t"
      refine CallV_spec ((take_spec (by omega) (by omega) hs6).mono fun v σ₇ hq_ => ?_)
      obtain ⟨t5, e, _, _, hs7, hE7⟩ := hq_
      subst e
      repeat walk_at "t"
      refine CallV_spec ((cmp_new_spec _ _ _ _).mono fun v σ₈ hq_ => ?_)
      obtain ⟨y, e, hy, hE8⟩ := hq_
      subst e
      have hM8 := hE8 _ _ (hE7 _ _ hM6 (fun _ q => by cases q))
      refine CallV_append hM8 (by simp) ⟨rfl, ?_⟩
      repeat walk_at "t"
      have hup : ∀ vs, ExtS σ (upd σ₈ M (.list .plain vs)) := fun vs b o hb ho => by
        have hbM : b ≠ M := by
          rintro rfl
          have h4 : σ₄ b ≠ none := by
            rw [hE4 _ _ ((hE1.trans hE2).trans hE3 _ _ hb ho)]; intro q; cases q
          exact h4 hM
        exact upd_some (hE8 _ _ (hE7 _ _ (hE6 _ _ (hE14 _ _ hb ho) ho) ho)) hbM
      refine ⟨rfl, rfl, ?_, hup _, [⟨1, 1 + t1, 1 + t2, t3⟩, ⟨2, 1, 1, t5⟩], _, upd_self .., ((hx6.extS hE7).ext hE8).add hy hM8, by simp, by simp, ?_⟩
      · obtain ⟨s0, s1, z1, z2⟩ := hs7.ext hE8
        exact ⟨s0, s1, upd_some z1 (ne_kind z1 hM8 (by intro q; cases q)), z2⟩
      · intro c hc
        simp only [List.mem_cons, List.not_mem_nil, or_false] at hc
        rcases hc with rfl | rfl <;> (dsimp only; omega)
    · repeat walk_at "t"
      refine ⟨rfl, rfl, hs6, hE14.trans hE6, [⟨1, 1 + t1, 1 + t2, t3⟩], _, hM6, hx6, by simp, by simp, ?_⟩
      intro c hc
      simp only [List.mem_cons, List.not_mem_nil, or_false] at hc
      subst hc
      dsimp only; omega
  rintro fl m' σ₆ ⟨rfl, rfl, hs6, hE6, cs, vs, hM6, hcs, hne, hlen, hbd⟩
  refine Seq_next (TX_cons (TX_AssignSwap2 ?_ (swap_of (by rfl))))
  have ok1 := maxOf_bd (l := cs.map (·.ac)) (by simpa using hne) (by simpa using fun c hc => ⟨(hbd c hc).1, (hbd c hc).2.1⟩)
  have ok2 := maxOf_bd (l := cs.map (·.dn)) (by simpa using hne) (by simpa using fun c hc => ⟨(hbd c hc).2.2.1, (hbd c hc).2.2.2⟩)
  refine TE_Tuple (TArgs_cons (TE_BinOp (TE_int ?_)))
  refine TE_maxAttr (gt := (·.ac)) ⟨rfl, rfl, rfl, rfl⟩ (by intro y hy; simp at hy) (by rfl) (by rfl) (by decide) (by intro _; rfl) hM6 hcs hne (fun c hc => by have := (hbd c hc).1; omega) (by omega) (ao_across C) (fun c => rfl) (TE_local (by rfl) ⟨rfl, rfl, rfl⟩) fun σ₇ hE7 => ?_
  generalize hmx : maxOf (cs.map (·.ac)) = mx at *
  refine Op2_mul (mulL (by decide) (by decide)) (TArgs_cons (TE_BinOp (TE_int ?_)))
  refine TE_maxAttr (gt := (·.dn)) ⟨rfl, rfl, rfl, rfl⟩ (by intro y hy; simp at hy) (by rfl) (by rfl) (by decide) (by intro _; rfl) (hE7 _ _ hM6) (hcs.ext hE7) hne (fun c hc => by have := (hbd c hc).2.2.1; omega) (by omega) (ao_down C) (fun c => rfl) (TE_local (by rfl) ⟨rfl, rfl, rfl⟩) fun σ₈ hE8 => ?_
  generalize hmy : maxOf (cs.map (·.dn)) = my at *
  repeat walk_at "t"
  refine ⟨by simp, fun t ht => ⟨t, _, _, rfl, upd_self .., ?_⟩⟩
  have hE69 := (hE7.trans hE8).thenNew (o := .tup [I (2 * mx), I (2 * my)]) ht
  have hs9 := hs6.ext hE69
  have hM9 := hE69 _ _ hM6
  have hcs9 := hcs.ext hE69
  have hE9 := hE6.trans hE69.toS
  generalize upd σ₈ t (.tup [I (2 * mx), I (2 * my)]) = σ₉ at *
  clear hE69
  repeat walk_at "t"
  refine CallV_spec ((take_spec (by omega) (by omega) hs9).mono fun v σ₁₀ hq_ => ?_)
  obtain ⟨u1, e, c1, c2, hs10, hE10⟩ := hq_
  subst e
  repeat walk_at "t"
  refine ⟨by simp, fun N1 hN1 => ?_⟩
  repeat walk_at "t"
  refine CallV_spec ((one_spec (hs10.ext (Ext.new hN1)) (upd_self ..) (by simp) (by simp)).mono fun v σ₁₁ hq_ => ?_)
  obtain ⟨hv, hs11, hE11⟩ := hq_
  have hE9_11 := (hE10.trans (Ext.new hN1).toS).trans hE11
  obtain ⟨i1, rfl, d1, d2⟩ : ∃ i : Int, v = I i ∧ 0 ≤ i ∧ i ≤ 1 := by
    simp only [List.mem_cons, List.not_mem_nil, or_false] at hv
    rcases hv with rfl | rfl | rfl
    · exact ⟨0, rfl, by decide, by decide⟩
    · exact ⟨0, rfl, by decide, by decide⟩
    · exact ⟨1, rfl, by decide, by decide⟩
  have wbd : 0 ≤ 2 * mx * (1 + u1) - i1 ∧ 2 * mx * (1 + u1) - i1 ≤ 8 := by
    rcases (show u1 = 0 ∨ u1 = 1 by omega) with rfl | rfl <;> omega
  repeat walk_at "t"
  refine CallV_spec ((take_spec (by omega) (by omega) hs11).mono fun v σ₁₂ hq_ => ?_)
  obtain ⟨u2, e, c3, c4, hs12, hE12⟩ := hq_
  subst e
  repeat walk_at "t"
  refine ⟨by simp, fun N2 hN2 => ?_⟩
  repeat walk_at "t"
  refine CallV_spec ((one_spec (hs12.ext (Ext.new hN2)) (upd_self ..) (by simp) (by simp)).mono fun v σ₁₃ hq_ => ?_)
  obtain ⟨hv, hs13, hE13⟩ := hq_
  have hE11_13 := (hE12.trans (Ext.new hN2).toS).trans hE13
  obtain ⟨i2, rfl, d3, d4⟩ : ∃ i : Int, v = I i ∧ 0 ≤ i ∧ i ≤ 1 := by
    simp only [List.mem_cons, List.not_mem_nil, or_false] at hv
    rcases hv with rfl | rfl | rfl
    · exact ⟨0, rfl, by decide, by decide⟩
    · exact ⟨0, rfl, by decide, by decide⟩
    · exact ⟨1, rfl, by decide, by decide⟩
  have hbd2 : 0 ≤ 2 * my * (1 + u2) - i2 ∧ 2 * my * (1 + u2) - i2 ≤ 8 := by
    rcases (show u2 = 0 ∨ u2 = 1 by omega) with rfl | rfl <;> omega
  repeat walk_at "t"
  have hEt := hE9_11.trans hE11_13
  refine CallV_spec ((frm_new_spec ⟨2 * my * (1 + u2) - i2, 2 * mx * (1 + u1) - i1, cs⟩ (hEt _ _ hM9 (fun _ q => by cases q)) (hcs9.extS hEt)).mono fun v σ₁₄ hq_ => ?_)
  obtain ⟨b, e, hb, hE14'⟩ := hq_
  exact ⟨b, _, e, hb, ⟨hne, hlen, fun c hc => ⟨(hbd c hc).1, (hbd c hc).2.1⟩, fun c hc => ⟨(hbd c hc).2.2.1, (hbd c hc).2.2.2⟩, hbd2, wbd⟩, hs13.ext hE14', (hE9.trans hEt).trans hE14'.toS⟩

theorem fmod_nat (s a : Nat) : ((s : Int)).fmod a = ((s % a : Nat) : Int) := by
  rw [Int.fmod_eq_emod_of_nonneg _ (by omega)]; simp
theorem fdiv_nat (s a : Nat) : ((s : Int)).fdiv a = ((s / a : Nat) : Int) := by
  rw [Int.fdiv_eq_ediv_of_nonneg _ (by omega)]; simp

set_option maxHeartbeats 2000000 in
theorem law_filled_spec {C : CC} {σ : Store} {a b : Addr} {F : Frm} (hs : SrcAt σ a) (hF : FrmAt σ b F) (ok : FrmOk F) :
    Spec C 6 (.ref 522) [.ref a, .ref b] σ (fun v σ' => ∃ g ct, v = .ref g ∧ GridAt σ' g (shapeOf F) ct ∧ Bd ct ∧ SrcAt σ' a ∧ FrmAt σ' b F) := by
  refine' Spec_def (body := _ :: _) (DefOk.of' (names := [_, _]) (ns := [_, _, _, _, _, _, _, _, _, _, _, _]) ?h1 ?h2 ?h3 ?h17 ?h18 ?h4 ?h5 ?h6 ?h7 ?h8 ?h9 ?h10 ?h11 ?h12 ?h14 ?h15) ?_
  walk_at "dx"
  intro f
  have hfew := ok.few
  refine TX_cons (TX_AssignSwap2 ?_ (swap_of (by rfl)))
  repeat walk_at "t"
  refine CallV_spec ((grid_new_spec hF ok).mono fun v σ₁ hq_ => ?_)
  obtain ⟨g, e, hn, hg, hE1⟩ := hq_
  subst e
  repeat walk_at "t"
  refine ⟨by simp, fun t ht => ⟨t, _, _, rfl, upd_self .., ?_⟩⟩
  have hE2 := Ext.new (o := .tup [.ref g, I 0]) ht
  have hg2 := hg.ext hE2
  have hF2 := (hF.ext hE1).ext hE2
  have hs2 := (hs.ext hE1).ext hE2
  generalize upd σ₁ t (.tup [.ref g, I 0]) = σ₂ at *
  clear hE2
  repeat walk_at "t"
  refine TX_For ?_
  repeat walk_at "t"
  have hF2' := hF2
  obtain ⟨dx, L, vs, h1, h2, h3, h4⟩ := hF2'
  have hlen : vs.length ≤ 1000 := by rw [h4.1]; omega
  refine TE_AttrV h1 h2 rfl (ao_components C) (by intro _ q; cases q) ?_ (TE_local (by rfl) ⟨rfl, rfl, rfl⟩)
  repeat walk_at "t"
  refine CallV_lenL h3 hlen ?_
  repeat walk_at "t"
  intro R hR
  have hER := Ext.new (o := .rng 0 vs.length 1) hR
  let G : Int → LM → Prop := fun nb m => m.lookup (Str.ofString "source") = some (.ref a) ∧ m.lookup (Str.ofString "frame") = some (.ref b) ∧ m.lookup (Str.ofString "grid") = some (.ref g) ∧ m.lookup (Str.ofString "number") = some (I nb)
  let H : Store → Prop := fun σ => FrmAt σ b F ∧ SrcAt σ a ∧ ∃ ct, GridAt σ g (shapeOf F) ct ∧ Bd ct
  refine ⟨.rng R 0 vs.length 1, rangeItems 0 vs.length 1, fun k m₂ σ₃ => (∃ nb : Int, G nb m₂ ∧ 0 ≤ nb ∧ nb ≤ 484 * k) ∧ H σ₃ ∧ σ₃ R = some (.rng 0 vs.length 1), rfl,
    ⟨⟨0, ⟨rfl, rfl, rfl, rfl⟩, by omega, by omega⟩, ⟨hF2.ext hER, hs2.ext hER, nones, hg2.ext hER, Bd.nones⟩, upd_self ..⟩, fun k m₂ σ₃ q => ⟨q.2.2, range_small hlen, rfl⟩, ?_, ?_⟩
  · rintro k v m₂ σ₃ hv ⟨⟨nb, ⟨g1, g2, g3, g4⟩, hnb, hnb'⟩, ⟨hF3, hs3, ct3, hg3, hb3⟩, hR3⟩
    obtain ⟨hk, rfl⟩ := rangeItems_get hv
    have hkc : k < F.cs.length := by rw [← h4.1]; exact hk
    generalize hc : F.cs[k] = c
    have hc' : F.cs[k]? = some c := by rw [List.getElem?_eq_getElem hkc, hc]
    obtain ⟨b1, b2⟩ := ok.sh hc'
    have hsh := shape_at hc'
    have hF3' := hF3
    obtain ⟨dx', L', vs', h1', h2', h3', h4'⟩ := hF3'
    refine TX_cons (TX_AssignTup2 (TE_MethV h1' h2' rfl (mo_padded C) (TE_local (by walk_at "lk") ⟨rfl, rfl, rfl⟩) ?_))
    repeat walk_at "t"
    refine CallV_spec ((padded_spec hF3 ok hc').mono fun v σ₄ hq_ => ?_)
    obtain ⟨t, e, ht, hE4⟩ := hq_
    subst e
    refine ⟨t, _, _, rfl, ht, ?_⟩
    generalize ha : mcA F * c.ac = aa at *
    generalize hdd : mcD F * c.dn = dd at *
    obtain ⟨aN, rfl⟩ := Int.eq_ofNat_of_zero_le b1.1
    obtain ⟨dN, rfl⟩ := Int.eq_ofNat_of_zero_le b2.1
    simp only [Int.toNat_natCast] at hsh
    have hmul : aN * dN ≤ 22 * 22 := Nat.mul_le_mul (by omega) (by omega)
    repeat walk_at "t"
    refine TX_For ?_
    repeat walk_at "t"
    rw [show ((aN : Int) * (dN : Int)) = ((aN * dN : Nat) : Int) by simp]
    generalize hN : aN * dN = N at *
    intro R' hR'
    have hER' := Ext.new (o := .rng 0 N 1) hR'
    have hE4' := hE4.trans hER'
    refine ⟨.rng R' 0 N 1, rangeItems 0 N 1, fun j m₃ σ₅ => (∃ nb : Int, G nb m₃ ∧ 0 ≤ nb ∧ nb ≤ 484 * k + j) ∧ m₃.lookup (Str.ofString "place") = some (I k) ∧ m₃.lookup (Str.ofString "across") = some (I aN) ∧ H σ₅ ∧ σ₅ R = some (.rng 0 vs.length 1) ∧ σ₅ R' = some (.rng 0 N 1), rfl,
      ⟨⟨nb, ⟨by walk_at "lk", by walk_at "lk", by walk_at "lk", by walk_at "lk"⟩, hnb, by omega⟩, by walk_at "lk", by walk_at "lk", ⟨hF3.ext hE4', hs3.ext hE4', ct3, hg3.ext hE4', hb3⟩, hE4' _ _ hR3, upd_self ..⟩, fun j m₃ σ₅ q => ⟨q.2.2.2.2.2, range_small (by omega), rfl⟩, ?_, ?_⟩
    · rintro j v m₃ σ₅ hv ⟨⟨nb, ⟨f1, f2, f3, f4⟩, hnb, hnb'⟩, f5, f6, ⟨hF5, hs5, ct5, hg5, hb5⟩, hR5, hR5'⟩
      obtain ⟨hj, rfl⟩ := rangeItems_get hv
      have haN : 0 < aN := by
        rcases Nat.eq_zero_or_pos aN with z | z
        · subst z; simp at hN; omega
        · exact z
      have hx : j % aN < aN := Nat.mod_lt _ haN
      have hy : j / aN < dN := by rw [Nat.div_lt_iff_lt_mul haN, Nat.mul_comm]; omega
      repeat walk_at "t"
      have hg5' := hg5
      obtain ⟨gx, gA, gpl, z1, z2, _⟩ := hg5'
      refine TE_MethV z1 z2 rfl (mo_put C) (TE_local (by walk_at "lk") ⟨rfl, rfl, rfl⟩) ?_
      repeat walk_at "t"
      refine Op2_floordiv (by omega) (by omega) ?_
      repeat walk_at "t"
      refine CallV_spec ((take_spec (by omega) (by omega) hs5).mono fun v σ₆ hq_ => ?_)
      obtain ⟨u, e, c1, c2, hs6, hE6⟩ := hq_
      subst e
      repeat walk_at "t"
      refine ⟨by simp, fun Z hZ => ?_⟩
      have hEZ := Ext.new (o := .list .plain [I (nb + 1), I (u - 4), I (7 - (nb + 1)), I ((nb + 1).fmod 3 - 1)]) hZ
      obtain ⟨e1, e2⟩ := fmod_bd (nb + 1) (show (0 : Int) < 3 by decide)
      repeat walk_at "t"
      rw [fmod_nat, fdiv_nat]
      refine CallV_spec ((put_spec (l := [nb + 1, u - 4, 7 - (nb + 1), (nb + 1).fmod 3 - 1]) ((hg5.extS hE6).ext hEZ) hsh hx hy ⟨by omega, by omega, by omega⟩ (upd_self ..) rfl).mono fun v σ₇ hq_ => ?_)
      obtain ⟨e, hg7, hE7⟩ := hq_
      refine ⟨e, ?_⟩
      have hE57 := hE6.trans hEZ.toS
      repeat walk_at "t"
      refine ⟨⟨nb + 1, ⟨by walk_at "lk", by walk_at "lk", by walk_at "lk", by walk_at "lk"⟩, by omega, by omega⟩, by walk_at "lk", by walk_at "lk", ⟨(hF5.extS hE57).extG hE7, (hs6.ext hEZ).extG hE7, _, hg7, hb5.set ?_⟩, ?_, ?_⟩
      · intro i hi
        simp only [List.mem_cons, List.not_mem_nil, or_false] at hi
        rcases hi with rfl | rfl | rfl | rfl <;> omega
      · exact hE7 _ _ (hE57 _ _ hR5 (fun _ q => by cases q)) (fun _ _ _ q => by cases q)
      · exact hE7 _ _ (hE57 _ _ hR5' (fun _ q => by cases q)) (fun _ _ _ q => by cases q)
    · rintro m₃ σ₅ ⟨⟨nb, hG, hnb, hnb'⟩, f5, f6, hH, hR5, hR5'⟩
      rw [rangeItems_len] at hnb'
      exact Seq_next (TX_nil ⟨⟨nb, hG, hnb, by omega⟩, hH, hR5⟩)
  · rintro m₂ σ₃ ⟨⟨nb, ⟨g1, g2, g3, g4⟩, hnb, hnb'⟩, ⟨hF3, hs3, ct3, hg3, hb3⟩, hR3⟩
    repeat walk_at "t"
    exact ⟨g, ct3, rfl, hg3, hb3, hs3, hF3⟩

noncomputable def ledW (w : Str) (x y a d : Int) : Int × Int :=
  if w == Str.ofString "mirror" then (a - 1 - x, y) else if w == Str.ofString "flip" then (x, d - 1 - y) else if w == Str.ofString "back" then (a - 1 - x, d - 1 - y)
  else if w == Str.ofString "swap" then (y, x) else if w == Str.ofString "cross" then (d - 1 - y, a - 1 - x) else if w == Str.ofString "right" then (d - 1 - y, x) else if w == Str.ofString "left" then (y, a - 1 - x) else (x, y)

set_option maxHeartbeats 1000000 in
theorem led_spec {C : CC} {σ : Store} {w : Str} {x y a d : Int} :
    Spec C 1 (.ref 534) [I x, I y, I a, I d, S w] σ (fun v σ' => ∃ t, v = .ref t ∧ σ' t = some (.tup [I (ledW w x y a d).1, I (ledW w x y a d).2]) ∧ Ext σ σ') := by
  refine' Spec_def (body := _ :: _) (DefOk.of' (names := [_, _, _, _, _]) (ns := [_, _, _, _, _]) ?h1 ?h2 ?h3 ?h17 ?h18 ?h4 ?h5 ?h6 ?h7 ?h8 ?h9 ?h10 ?h11 ?h12 ?h14 ?h15) ?_
  walk_at "dx"
  intro f
  have fin : ∀ {p q : Int}, ledW w x y a d = (p, q) → ∀ {t : Addr}, σ t = none → (∃ t', Value.ref t = .ref t' ∧ upd σ t (.tup [I p, I q]) t' = some (.tup [I (ledW w x y a d).1, I (ledW w x y a d).2]) ∧ Ext σ (upd σ t (.tup [I p, I q]))) := by
    intro p q e t ht
    rw [e]
    exact ⟨t, rfl, upd_self .., Ext.new ht⟩
  repeat walk_at "t"
  refine iteB (fun h1 => ?_) (fun h1 => ?_)
  · repeat walk_at "t"
    exact ⟨by simp, fun t ht => fin (by simp only [ledW, h1, if_true]) ht⟩
  repeat walk_at "t"
  refine iteB (fun h2 => ?_) (fun h2 => ?_)
  · repeat walk_at "t"
    exact ⟨by simp, fun t ht => fin (by simp only [ledW, h1, h2, if_true, if_false, Bool.false_eq_true]) ht⟩
  repeat walk_at "t"
  refine iteB (fun h3 => ?_) (fun h3 => ?_)
  · repeat walk_at "t"
    exact ⟨by simp, fun t ht => fin (by simp only [ledW, h1, h2, h3, if_true, if_false, Bool.false_eq_true]) ht⟩
  repeat walk_at "t"
  refine iteB (fun h4 => ?_) (fun h4 => ?_)
  · repeat walk_at "t"
    exact ⟨by simp, fun t ht => fin (by simp only [ledW, h1, h2, h3, h4, if_true, if_false, Bool.false_eq_true]) ht⟩
  repeat walk_at "t"
  refine iteB (fun h5 => ?_) (fun h5 => ?_)
  · repeat walk_at "t"
    exact ⟨by simp, fun t ht => fin (by simp only [ledW, h1, h2, h3, h4, h5, if_true, if_false, Bool.false_eq_true]) ht⟩
  repeat walk_at "t"
  refine iteB (fun h6 => ?_) (fun h6 => ?_)
  · repeat walk_at "t"
    exact ⟨by simp, fun t ht => fin (by simp only [ledW, h1, h2, h3, h4, h5, h6, if_true, if_false, Bool.false_eq_true]) ht⟩
  repeat walk_at "t"
  refine iteB (fun h7 => ?_) (fun h7 => ?_)
  · repeat walk_at "t"
    exact ⟨by simp, fun t ht => fin (by simp only [ledW, h1, h2, h3, h4, h5, h6, h7, if_true, if_false, Bool.false_eq_true]) ht⟩
  · repeat walk_at "t"
    exact ⟨by simp, fun t ht => fin (by simp only [ledW, h1, h2, h3, h4, h5, h6, h7, if_true, if_false, Bool.false_eq_true]) ht⟩

noncomputable def lsw : List PyData := [.str (Str.ofString "swap"), .str (Str.ofString "cross"), .str (Str.ofString "left"), .str (Str.ofString "right")]
noncomputable def lmi : List PyData := [.str (Str.ofString "mirror"), .str (Str.ofString "back"), .str (Str.ofString "cross"), .str (Str.ofString "right")]
noncomputable def lfl : List PyData := [.str (Str.ofString "flip"), .str (Str.ofString "back"), .str (Str.ofString "cross"), .str (Str.ofString "left")]
theorem lay_lsw : PyData.canLayAll0 lsw = true := by decide +kernel
theorem lay_lmi : PyData.canLayAll0 lmi = true := by decide +kernel
theorem lay_lfl : PyData.canLayAll0 lfl = true := by decide +kernel
theorem rdL4 {top : Heap} {σ : Store} {t : Addr} {r : Role} {a b c d : Str} (h : σ t = some (.list r [S a, S b, S c, S d])) : Rd top σ (.ref t) (.list [.str a, .str b, .str c, .str d]) :=
  .list h rfl fun i v d h1 h2 => by
    rcases i with _ | _ | _ | _ | i <;> simp at h1 h2 <;> (subst h1 h2; exact .str _)
section
variable {n : Nat} {ns : List (Str × NameKind)} {C : CC} {f : Fx n ns} {m : LM} {σ : Store}
theorem Op2_inL4 {w : Str} {t : Addr} {r : Role} {a b c d : Str} {Q : Value → LM → Store → Prop} (hw : okData (.str w)) (ht : σ t = some (.list r [S a, S b, S c, S d])) (hl : PyData.canLayAll0 [.str a, .str b, .str c, .str d] = true)
    (h : Q (.bool (inW [.str a, .str b, .str c, .str d] w)) m σ) : Op2 C f m σ (compareOp .In) (S w) (.ref t) Q := Op2_inl (.str w) (rdL4 ht) hw hl h
end
noncomputable def bentL (s mi fl : Bool) (r0 r1 r2 r3 : Int) : List Int :=
  let f := if s then r2 else r1
  let g := if s then r1 else r2
  let f := if mi then -f else f
  let t := if mi then -r3 else r3
  let g := if fl then -g else g
  let t := if fl then -t else t
  [r0, f, g, t]
noncomputable def bentW (w : Str) (r0 r1 r2 r3 : Int) : List Int := bentL (inW lsw w) (inW lmi w) (inW lfl w) r0 r1 r2 r3

set_option maxHeartbeats 1000000 in
theorem bent_spec {C : CC} {σ : Store} {b : Addr} {r : Role} {w : Str} {r0 r1 r2 r3 : Int} (hw : okData (.str w)) (hb : σ b = some (.list r [I r0, I r1, I r2, I r3])) :
    Spec C 1 (.ref 541) [.ref b, S w] σ (fun v σ' => ∃ t, v = .ref t ∧ σ' t = some (.list .plain ((bentW w r0 r1 r2 r3).map I)) ∧ Ext σ σ') := by
  refine' Spec_def (body := _ :: _) (DefOk.of' (names := [_, _]) (ns := [_, _, _, _, _, _]) ?h1 ?h2 ?h3 ?h17 ?h18 ?h4 ?h5 ?h6 ?h7 ?h8 ?h9 ?h10 ?h11 ?h12 ?h14 ?h15) ?_
  walk_at "dx"
  intro f
  let G : Int → Int → Int → LM → Prop := fun p q s m => m.lookup (Str.ofString "dc") = some (I r0) ∧ m.lookup (Str.ofString "first") = some (I p) ∧ m.lookup (Str.ofString "second") = some (I q) ∧ m.lookup (Str.ofString "third") = some (I s) ∧ m.lookup (Str.ofString "turn") = some (S w)
  refine TX_cons (TX_AssignList4 ?_)
  repeat walk_at "t"
  refine ⟨b, r, _, _, _, _, rfl, hb, ?_⟩
  refine Seq_next (TX_cons (TX.mono (Q := fun fl m σ₁ => fl = .next ∧ Ext σ σ₁ ∧ G (if inW lsw w then r2 else r1) (if inW lsw w then r1 else r2) r3 m) ?_ ?_))
  · refine TX_If ?_
    repeat walk_at "t"
    refine ⟨by simp, fun t ht => Op2_inL4 hw (upd_self ..) lay_lsw ?_⟩
    have hE := Ext.new (o := .list .plain [S (Str.ofString "swap"), S (Str.ofString "cross"), S (Str.ofString "left"), S (Str.ofString "right")]) ht
    generalize upd σ t (.list .plain [S (Str.ofString "swap"), S (Str.ofString "cross"), S (Str.ofString "left"), S (Str.ofString "right")]) = σ₁ at *
    change ∃ b, Value.bool (inW lsw w) = Value.bool b ∧ _
    repeat walk_at "t"
    refine iteB (fun hb => ?_) (fun hb => ?_)
    · refine TX_cons (TX_AssignSwap2 ?_ (swap_of (by rfl)))
      repeat walk_at "t"
      refine ⟨by simp, fun t ht => ⟨t, _, _, rfl, upd_self .., ?_⟩⟩
      repeat walk_at "t"
      rw [hb]
      exact ⟨rfl, hE.thenNew ht, rfl, rfl, rfl, rfl, rfl⟩
    · repeat walk_at "t"
      rw [hb]
      exact ⟨rfl, hE, rfl, rfl, rfl, rfl, rfl⟩
  rintro fl m₁ σ₁ ⟨rfl, hE1, g1, g2, g3, g4, g5⟩
  dsimp only [bentW, bentL]
  generalize (if inW lsw w then r2 else r1) = p1 at *
  generalize (if inW lsw w then r1 else r2) = q1 at *
  refine Seq_next (TX_cons (TX.mono (Q := fun fl m σ₂ => fl = .next ∧ Ext σ σ₂ ∧ G (if inW lmi w then -p1 else p1) q1 (if inW lmi w then -r3 else r3) m) ?_ ?_))
  · refine TX_If ?_
    repeat walk_at "t"
    refine ⟨by simp, fun t ht => Op2_inL4 hw (upd_self ..) lay_lmi ?_⟩
    have hE := hE1.thenNew (o := .list .plain [S (Str.ofString "mirror"), S (Str.ofString "back"), S (Str.ofString "cross"), S (Str.ofString "right")]) ht
    generalize upd σ₁ t (.list .plain [S (Str.ofString "mirror"), S (Str.ofString "back"), S (Str.ofString "cross"), S (Str.ofString "right")]) = σ₂ at *
    change ∃ b, Value.bool (inW lmi w) = Value.bool b ∧ _
    repeat walk_at "t"
    refine iteB (fun hb => ?_) (fun hb => ?_)
    · refine TX_cons (TX_AssignSwap2 ?_ (swap_of (by rfl)))
      repeat walk_at "t"
      refine ⟨by simp, fun t ht => ⟨t, _, _, rfl, upd_self .., ?_⟩⟩
      repeat walk_at "t"
      rw [hb]
      exact ⟨rfl, hE.thenNew ht, by walk_at "lk", by walk_at "lk", by walk_at "lk", by walk_at "lk", by walk_at "lk"⟩
    · repeat walk_at "t"
      rw [hb]
      exact ⟨rfl, hE, g1, g2, g3, g4, g5⟩
  rintro fl m₂ σ₂ ⟨rfl, hE2, f1, f2, f3, f4, f5⟩
  generalize (if inW lmi w then -p1 else p1) = p2 at *
  generalize (if inW lmi w then -r3 else r3) = t2 at *
  refine Seq_next (TX_cons (TX.mono (Q := fun fl m σ₂ => fl = .next ∧ Ext σ σ₂ ∧ G p2 (if inW lfl w then -q1 else q1) (if inW lfl w then -t2 else t2) m) ?_ ?_))
  · refine TX_If ?_
    repeat walk_at "t"
    refine ⟨by simp, fun t ht => Op2_inL4 hw (upd_self ..) lay_lfl ?_⟩
    have hE := hE2.thenNew (o := .list .plain [S (Str.ofString "flip"), S (Str.ofString "back"), S (Str.ofString "cross"), S (Str.ofString "left")]) ht
    generalize upd σ₂ t (.list .plain [S (Str.ofString "flip"), S (Str.ofString "back"), S (Str.ofString "cross"), S (Str.ofString "left")]) = σ₃ at *
    change ∃ b, Value.bool (inW lfl w) = Value.bool b ∧ _
    repeat walk_at "t"
    refine iteB (fun hb => ?_) (fun hb => ?_)
    · refine TX_cons (TX_AssignSwap2 ?_ (swap_of (by rfl)))
      repeat walk_at "t"
      refine ⟨by simp, fun t ht => ⟨t, _, _, rfl, upd_self .., ?_⟩⟩
      repeat walk_at "t"
      rw [hb]
      exact ⟨rfl, hE.thenNew ht, by walk_at "lk", by walk_at "lk", by walk_at "lk", by walk_at "lk", by walk_at "lk"⟩
    · repeat walk_at "t"
      rw [hb]
      exact ⟨rfl, hE, f1, f2, f3, f4, f5⟩
  rintro fl m₃ σ₃ ⟨rfl, hE3, e1, e2, e3, e4, e5⟩
  repeat walk_at "t"
  exact ⟨by simp, fun t ht => ⟨t, rfl, upd_self .., hE3.thenNew ht⟩⟩

def words8 : List Str := [Str.ofString "right", Str.ofString "left", Str.ofString "mirror", Str.ofString "flip", Str.ofString "swap", Str.ofString "cross", Str.ofString "back", Str.ofString "stay"]
noncomputable def startsD : List (PyData × PyData) := [(.str (Str.ofString "mirror"), .str (Str.ofString "x")), (.str (Str.ofString "right"), .str (Str.ofString "y")), (.str (Str.ofString "back"), .str (Str.ofString "xy")), (.str (Str.ofString "cross"), .str (Str.ofString "xy")), (.str (Str.ofString "flip"), .str (Str.ofString "y")), (.str (Str.ofString "left"), .str (Str.ofString "x"))]
noncomputable def strOf : PyData → Str
  | .str z => z
  | _ => Str.ofString ""
noncomputable def startsW (w : Str) : Str := strOf ((PySem.Spec.lookup (.str w) startsD).getD (.str (Str.ofString "")))
theorem starts_is {w : Str} (hw : w ∈ words8) : (PySem.Spec.lookup (.str w) startsD).getD (.str (Str.ofString "")) = .str (startsW w) := by
  simp only [words8, List.mem_cons, List.not_mem_nil, or_false] at hw
  rcases hw with rfl | rfl | rfl | rfl | rfl | rfl | rfl | rfl <;> rfl
theorem ok8 {w : Str} (hw : w ∈ words8) : okData (.str w) := by
  simp only [words8, List.mem_cons, List.not_mem_nil, or_false] at hw
  rcases hw with rfl | rfl | rfl | rfl | rfl | rfl | rfl | rfl <;> exact ⟨by decide +kernel, by decide +kernel⟩
theorem wrd8 {w : Str} (hw : w ∈ words8) : inW wrdL w = true := by
  simp only [words8, List.mem_cons, List.not_mem_nil, or_false] at hw
  rcases hw with rfl | rfl | rfl | rfl | rfl | rfl | rfl | rfl <;> decide +kernel

noncomputable def pairD (p : Int × Int) : PyData := .tuple [.int p.1, .int p.2]
theorem rdPair {top : Heap} {σ : Store} {t : Addr} {p : Int × Int} (h : σ t = some (.tup [I p.1, I p.2])) : Rd top σ (.ref t) (pairD p) :=
  .tup h rfl fun i v d h1 h2 => by
    rcases i with _ | _ | i <;> simp at h1 h2 <;> (subst h1 h2; exact .int _)
theorem okPair (p : Int × Int) : okData (pairD p) := by
  refine ⟨by simp [pairD, PyData.canLay0, PyData.canLayAll0], ?_⟩
  show PyData.depth (.tuple [.int p.1, .int p.2]) ≤ 64
  simp [PyData.depth, PyData.depthAll]
noncomputable def restW (F : Frm) (w : Str) : Bool := (!PyData.eqv (pairD (ledW w 0 0 3 3)) (pairD (0, 0))) &&
  ((Txt.contains (startsW w) (Str.ofString "x") && decide (0 < F.w.fmod (2 * maxA F))) || (Txt.contains (startsW w) (Str.ofString "y") && decide (0 < F.h.fmod (2 * maxD F))))

set_option maxHeartbeats 2000000 in
theorem law_rest_spec {C : CC} {σ : Store} {a : Addr} {F : Frm} {w : Str} (hw : w ∈ words8) (hF : FrmAt σ a F) (ok : FrmOk F) : Spec C 2 (.ref 546) [.ref a, S w] σ (fun v σ' => v = .bool (restW F w) ∧ Ext σ σ') := by
  refine' Spec_def (body := _ :: _) (DefOk.of' (names := [_, _]) (ns := [_, _, _, _, _, _, _, _]) ?h1 ?h2 ?h3 ?h17 ?h18 ?h4 ?h5 ?h6 ?h7 ?h8 ?h9 ?h10 ?h11 ?h12 ?h14 ?h15) ?_
  walk_at "dx"
  intro f
  have hF' := hF
  obtain ⟨dx, L, vs, h1, h2, h3, h4⟩ := hF
  have hb := ok.maxA
  have hb2 := ok.maxD
  have hfew := ok.few
  refine TX_cons (TX_AssignSwap2 ?_ (swap_of (by rfl)))
  refine TE_Tuple (TArgs_cons (TE_BinOp (TE_int ?_)))
  refine TE_maxAttr (gt := (·.ac)) ⟨rfl, rfl, rfl, rfl⟩ (by intro y hy; simp at hy) (by rfl) (by rfl) (by decide) (by intro _; rfl) h3 h4 ok.ne (fun c hc => by have := (ok.ac c hc).1; omega) (by omega) (ao_across C) (fun c => rfl)
    (TE_AttrV h1 h2 rfl (ao_components C) (by intro _ q; cases q) ⟨rfl, rfl, rfl⟩ (TE_local (by rfl) ⟨rfl, rfl, rfl⟩)) fun σ₁ hE1 => ?_
  change Op2 C f _ σ₁ (binaryOp .Mult) (I 2) (I (maxA F)) _
  refine Op2_mul (mulL (by decide) (by decide)) (TArgs_cons (TE_BinOp (TE_int ?_)))
  refine TE_maxAttr (gt := (·.dn)) ⟨rfl, rfl, rfl, rfl⟩ (by intro y hy; simp at hy) (by rfl) (by rfl) (by decide) (by intro _; rfl) (hE1 _ _ h3) (h4.ext hE1) ok.ne (fun c hc => by have := (ok.dn c hc).1; omega) (by omega) (ao_down C) (fun c => rfl)
    (TE_AttrV (hE1 _ _ h1) (hE1 _ _ h2) rfl (ao_components C) (by intro _ q; cases q) ⟨rfl, rfl, rfl⟩ (TE_local (by rfl) ⟨rfl, rfl, rfl⟩)) fun σ₂ hE2 => ?_
  change Op2 C f _ σ₂ (binaryOp .Mult) (I 2) (I (maxD F)) _
  have hE02 := hE1.trans hE2
  generalize hmA : maxA F = mx at *
  generalize hmD : maxD F = my at *
  repeat walk_at "t"
  refine ⟨by simp, fun t ht => ⟨t, _, _, rfl, upd_self .., ?_⟩⟩
  have hE03 := hE02.thenNew (o := .tup [I (2 * mx), I (2 * my)]) ht
  generalize upd σ₂ t (.tup [I (2 * mx), I (2 * my)]) = σ₃ at *
  repeat walk_at "t"
  refine CallV_spec (led_spec.mono fun v σ₄ hq_ => ?_)
  obtain ⟨t1, e, ht1, hE4⟩ := hq_
  subst e
  have hE04 := hE03.trans hE4
  refine Seq_next ?_
  refine TX_cons ?_
  refine TX_Assign ?a ?b ?c
  case b => exact Stor_local rfl
  case c => rfl
  refine TE_dictGet (D := startsD) ?h1 ?h2 ?h3 ?h4 ?h5 ?h6 ?h7 ?h8
  case h1 => rfl
  case h2 => rfl
  case h3 => decide +kernel
  case h4 => rfl
  case h5 => rfl
  case h6 => intro q; cases q
  case h7 => decide
  repeat walk_at "t"
  refine ⟨w, Str.ofString "", startsW w, rfl, starts_is hw, ?_⟩
  have h1' := hE04 _ _ h1
  have h2' := hE04 _ _ h2
  have hfin : ∀ {σ' : Store} (b : Bool), Ext σ σ' → b = restW F w → (retOf (Flow.ret (Value.bool b)) = Value.bool (restW F w) ∧ Ext σ σ') := fun b hE e => ⟨by rw [e]; rfl, hE⟩
  repeat walk_at "t"
  refine ⟨by simp, fun t2 ht2 => Op2_ned (rdPair (p := ledW w 0 0 3 3) (upd_some ht1 (ne_new ht1 ht2))) (rdPair (p := (0, 0)) (upd_self ..)) (okPair _) (okPair _) ?_⟩
  have hE05 := hE04.thenNew (o := .tup [I 0, I 0]) ht2
  have h15 := (Ext.new (o := .tup [I 0, I 0]) ht2) _ _ h1'
  have h25 := (Ext.new (o := .tup [I 0, I 0]) ht2) _ _ h2'
  generalize upd σ₄ t2 (.tup [I 0, I 0]) = σ₅ at *
  refine ⟨_, rfl, iteB (fun k1 => ?_) (fun k1 => ?_)⟩
  · repeat walk_at "t"
    refine Op2_in_str ⟨_, rfl, iteB (fun k2 => ?_) (fun k2 => ?_)⟩
    · repeat walk_at "t"
      refine TE_AttrV h15 h25 rfl (ao_width C) (by intro _ q; cases q) ?_ (TE_local (by rfl) ⟨rfl, rfl, rfl⟩)
      repeat walk_at "t"
      refine iteB (fun k3 => ?_) (fun k3 => ?_)
      · exact hfin _ hE05 (by simp only [restW, k1, k2, hmA, k3]; simp)
      · repeat walk_at "t"
        refine Op2_in_str ⟨_, rfl, iteB (fun k4 => ?_) (fun k4 => ?_)⟩
        · repeat walk_at "t"
          refine TE_AttrV h15 h25 rfl (ao_height C) (by intro _ q; cases q) ?_ (TE_local (by rfl) ⟨rfl, rfl, rfl⟩)
          repeat walk_at "t"
          exact hfin _ hE05 (by simp only [restW, k1, k2, hmA, hmD, k3, k4]; simp)
        · exact hfin _ hE05 (by simp only [restW, k1, k2, hmA, hmD, k3, k4]; simp)
    · repeat walk_at "t"
      refine iteF (by decide) ?_
      repeat walk_at "t"
      refine Op2_in_str ⟨_, rfl, iteB (fun k4 => ?_) (fun k4 => ?_)⟩
      · repeat walk_at "t"
        refine TE_AttrV h15 h25 rfl (ao_height C) (by intro _ q; cases q) ?_ (TE_local (by rfl) ⟨rfl, rfl, rfl⟩)
        repeat walk_at "t"
        exact hfin _ hE05 (by simp only [restW, k1, k2, hmA, hmD, k4]; simp)
      · exact hfin _ hE05 (by simp only [restW, k1, k2, hmA, hmD, k4]; simp)
  · exact hfin _ hE05 (by simp only [restW, k1]; simp)

theorem Rd.ext {top : Heap} {σ σ' : Store} {v : Value} {d : PyData} (h : Rd top σ v d) (k : Ext σ σ') : Rd top σ' v d := by
  induction h with
  | none => exact .none
  | bool b => exact .bool b
  | int i => exact .int i
  | str x => exact .str x
  | list e hl _ ih => exact .list (k _ _ e) hl ih
  | tup e hl _ ih => exact .tup (k _ _ e) hl ih
  | top hr => exact .top hr
inductive RdN (P : Addr → Prop) (top : Heap) (σ : Store) : Value → PyData → Prop
  | none : RdN P top σ .none .none
  | bool (b) : RdN P top σ (.bool b) (.bool b)
  | int (i) : RdN P top σ (I i) (.int i)
  | str (x) : RdN P top σ (S x) (.str x)
  | list {a} {vs : List Value} {ds : List PyData} : ¬ P a → σ a = some (.list .plain vs) → vs.length = ds.length → (∀ (i : Nat) v d, vs[i]? = some v → ds[i]? = some d → RdN P top σ v d) → RdN P top σ (.ref a) (.list ds)
theorem RdN.rd {P : Addr → Prop} {top : Heap} {σ : Store} {v : Value} {d : PyData} (h : RdN P top σ v d) : Rd top σ v d := by
  induction h with
  | none => exact .none
  | bool b => exact .bool b
  | int i => exact .int i
  | str x => exact .str x
  | list _ e hl _ ih => exact .list e hl ih
theorem RdN.to {P P' : Addr → Prop} {top : Heap} {σ σ' : Store} {v : Value} {d : PyData} (h : RdN P top σ v d) (hp : ∀ a, P' a → P a) (k : ∀ a vs, ¬ P a → σ a = some (.list .plain vs) → σ' a = some (.list .plain vs)) : RdN P' top σ' v d := by
  induction h with
  | none => exact .none
  | bool b => exact .bool b
  | int i => exact .int i
  | str x => exact .str x
  | list n e hl _ ih => exact .list (fun q => n (hp _ q)) (k _ _ n e) hl ih
theorem RdN.extB {N : Addr} {P : Addr → Prop} {top : Heap} {σ σ' : Store} {v : Value} {d : PyData} (h : RdN P top σ v d) (hN : P N) (k : ExtB N σ σ') : RdN P top σ' v d :=
  h.to (fun _ q => q) fun a vs n e => k a _ (fun z => n (z ▸ hN)) e
noncomputable abbrev RdP (top : Heap) (σ : Store) (v : Value) (d : PyData) : Prop := RdN (fun _ => False) top σ v d
theorem RdP.ext {top : Heap} {σ σ' : Store} {v : Value} {d : PyData} (h : RdP top σ v d) (k : Ext σ σ') : RdP top σ' v d := RdN.to h (fun _ q => q) fun a _ _ e => k a _ e
theorem RdP.extS {top : Heap} {σ σ' : Store} {v : Value} {d : PyData} (h : RdP top σ v d) (k : ExtS σ σ') : RdP top σ' v d := RdN.to h (fun _ q => q) fun a _ _ e => k a _ e (fun _ q => by cases q)
theorem RdP.extG {g : Nat} {top : Heap} {σ σ' : Store} {v : Value} {d : PyData} (h : RdP top σ v d) (k : ExtG g σ σ') : RdP top σ' v d := RdN.to h (fun _ q => q) fun a _ _ e => k a _ e (fun _ _ _ q => by cases q)

noncomputable def intsD (l : List Int) : PyData := .list (l.map .int)
theorem rdInts {top : Heap} {σ : Store} {q : Addr} {r : Role} {l : List Int} (h : σ q = some (.list r (l.map I))) : Rd top σ (.ref q) (intsD l) :=
  .list h (by simp) fun i v d h1 h2 => by
    rw [List.getElem?_map] at h1 h2
    cases e : l[i]? with
    | none => rw [e] at h1; cases h1
    | some x => rw [e] at h1 h2; cases h1; cases h2; exact .int x
noncomputable def cellD (ct : Cont) (p aN j : Nat) : PyData := intsD (cellVal (ct p (j % aN) (j / aN)))
noncomputable def PlaneL (N : Addr) (σ : Store) (D : Addr) (ct : Cont) (p aN k : Nat) : Prop := ∃ ws, σ D = some (.list .plain ws) ∧ ws.length = k ∧ ∀ (j : Nat) w, ws[j]? = some w → ∃ q, w = .ref q ∧ (q ≠ D ∧ q ≠ N) ∧ σ q = some (.list .plain ((cellVal (ct p (j % aN) (j / aN))).map I))
theorem PlaneL.ext {N : Addr} {σ σ' : Store} {D : Addr} {ct : Cont} {p aN k : Nat} (h : PlaneL N σ D ct p aN k) (e : Ext σ σ') : PlaneL N σ' D ct p aN k := by
  obtain ⟨ws, h1, h2, h3⟩ := h
  exact ⟨ws, e _ _ h1, h2, fun j w hw => let ⟨q, a, b, c⟩ := h3 j w hw; ⟨q, a, b, e _ _ c⟩⟩
theorem PlaneL.step {N : Addr} {σ : Store} {D q : Addr} {ct : Cont} {p aN k : Nat} (h : PlaneL N σ D ct p aN k) (hq : σ q = some (.list .plain ((cellVal (ct p (k % aN) (k / aN))).map I))) (hne : q ≠ D ∧ q ≠ N) :
    ∃ r vs, σ D = some (.list r vs) ∧ vs.length = k ∧ PlaneL N (upd σ D (.list r (vs ++ [.ref q]))) D ct p aN (k + 1) := by
  obtain ⟨ws, h1, h2, h3⟩ := h
  refine ⟨.plain, ws, h1, h2, ws ++ [.ref q], upd_self .., by simp [h2], fun j w hw => ?_⟩
  rw [List.getElem?_append] at hw
  split at hw
  · obtain ⟨q', a, b, c⟩ := h3 j w hw
    exact ⟨q', a, b, upd_some c b.1⟩
  · rename_i hj
    rw [List.getElem?_singleton] at hw
    split at hw
    · cases hw
      have : j = k := by omega
      subst this
      exact ⟨q, rfl, hne, upd_some hq hne.1⟩
    · cases hw
theorem rdNInts {P : Addr → Prop} {top : Heap} {σ : Store} {q : Addr} {l : List Int} (hn : ¬ P q) (h : σ q = some (.list .plain (l.map I))) : RdN P top σ (.ref q) (intsD l) :=
  .list hn h (by simp) fun i v d h1 h2 => by
    rw [List.getElem?_map] at h1 h2
    cases e : l[i]? with
    | none => rw [e] at h1; cases h1
    | some x => rw [e] at h1 h2; cases h1; cases h2; exact .int x
theorem PlaneL.rd {N : Addr} {top : Heap} {σ : Store} {D : Addr} {ct : Cont} {p aN k : Nat} (h : PlaneL N σ D ct p aN k) (hn : D ≠ N) : RdN (· = N) top σ (.ref D) (.list ((List.range k).map (cellD ct p aN))) := by
  obtain ⟨ws, h1, h2, h3⟩ := h
  refine .list hn h1 (by simp [h2]) fun j w d hw hd => ?_
  obtain ⟨q, rfl, hqn, hq⟩ := h3 j w hw
  have hj := (List.getElem?_eq_some_iff.mp hw).1
  rw [List.getElem?_map, List.getElem?_range (by omega)] at hd
  cases hd
  exact rdNInts hqn.2 hq

noncomputable def cmpD (c : Cmp) : PyData := intsD [c.id, c.ac, c.dn, c.qt]
noncomputable def planeD (F : Frm) (ct : Cont) (p : Nat) : PyData :=
  match F.cs[p]? with
  | some c => .list ((List.range ((mcA F * c.ac).toNat * (mcD F * c.dn).toNat)).map (cellD ct p (mcA F * c.ac).toNat))
  | none => .none
noncomputable def shownL (F : Frm) (ct : Cont) (k : Nat) : List PyData := [.str (Str.ofString "progressive"), .int 8, .int F.w, .int F.h, .int 2, .list (F.cs.map cmpD)] ++ (List.range k).map (planeD F ct)
theorem shownL_succ (F : Frm) (ct : Cont) (k : Nat) : shownL F ct (k + 1) = shownL F ct k ++ [planeD F ct k] := by
  unfold shownL
  rw [List.range_succ, List.map_append, ← List.append_assoc]
  rfl
noncomputable def shownD (F : Frm) (ct : Cont) : PyData := .list (shownL F ct F.cs.length)

theorem lay_all {xs : List PyData} (h : ∀ x ∈ xs, x.canLay0 = true) : PyData.canLayAll0 xs = true := by
  induction xs with
  | nil => rfl
  | cons x xs ih => rw [PyData.canLayAll0, h x (by simp), ih fun y hy => h y (by simp [hy])]; rfl
theorem depth_all {xs : List PyData} {n : Nat} (h : ∀ x ∈ xs, x.depth ≤ n) : PyData.depthAll xs ≤ n := by
  induction xs with
  | nil => simp [PyData.depthAll]
  | cons x xs ih =>
    have h1 := h x (by simp)
    have h2 := ih fun y hy => h y (by simp [hy])
    simp only [PyData.depthAll]
    omega
theorem okList {xs : List PyData} {n : Nat} (h : ∀ x ∈ xs, x.canLay0 = true ∧ x.depth ≤ n) : (PyData.list xs).canLay0 = true ∧ (PyData.list xs).depth ≤ n + 1 := by
  refine ⟨by rw [PyData.canLay0]; exact lay_all fun x hx => (h x hx).1, ?_⟩
  have := depth_all fun x hx => (h x hx).2
  simp only [PyData.depth]
  omega
theorem okInts (l : List Int) : (intsD l).canLay0 = true ∧ (intsD l).depth ≤ 2 := by
  refine okList (n := 1) fun x hx => ?_
  obtain ⟨i, _, rfl⟩ := List.mem_map.mp hx
  exact ⟨by rw [PyData.canLay0], by simp [PyData.depth]⟩
theorem okShown (F : Frm) (ct : Cont) : okData (shownD F ct) := by
  have := okList (xs := shownL F ct F.cs.length) (n := 4) fun x hx => ?_
  · exact ⟨this.1, by have := this.2; show (PyData.list _).depth ≤ 64; omega⟩
  · unfold shownL at hx
    rcases List.mem_append.mp hx with hx | hx
    · simp only [List.mem_cons, List.not_mem_nil, or_false] at hx
      rcases hx with rfl | rfl | rfl | rfl | rfl | rfl
      · exact ⟨by decide +kernel, by simp [PyData.depth]⟩
      · exact ⟨by rw [PyData.canLay0], by simp [PyData.depth]⟩
      · exact ⟨by rw [PyData.canLay0], by simp [PyData.depth]⟩
      · exact ⟨by rw [PyData.canLay0], by simp [PyData.depth]⟩
      · exact ⟨by rw [PyData.canLay0], by simp [PyData.depth]⟩
      · have := okList (xs := F.cs.map cmpD) (n := 2) fun x hx => by
          obtain ⟨c, _, rfl⟩ := List.mem_map.mp hx
          exact okInts _
        exact ⟨this.1, by have := this.2; omega⟩
    · obtain ⟨p, _, rfl⟩ := List.mem_map.mp hx
      unfold planeD
      cases F.cs[p]? with
      | none => exact ⟨by rw [PyData.canLay0], by simp [PyData.depth]⟩
      | some c =>
        have := okList (xs := (List.range ((mcA F * c.ac).toNat * (mcD F * c.dn).toNat)).map (cellD ct p (mcA F * c.ac).toNat)) (n := 2) fun x hx => by
          obtain ⟨j, _, rfl⟩ := List.mem_map.mp hx
          exact okInts _
        exact ⟨this.1, by have := this.2; dsimp only; omega⟩

theorem nat_mod {a i j : Nat} (hj : j < a) : (a * i + j) % a = j ∧ (a * i + j) / a = i := by
  constructor
  · rw [Nat.mul_add_mod, Nat.mod_eq_of_lt hj]
  · rw [Nat.mul_add_div (by omega), Nat.div_eq_of_lt hj]; rfl

set_option maxHeartbeats 2000000 in
theorem law_shown_spec {C : CC} {σ : Store} {a g : Addr} {F : Frm} {ct : Cont} (hF : FrmAt σ a F) (ok : FrmOk F) (hg : GridAt σ g (shapeOf F) ct) : Spec C 4 (.ref 527) [.ref a, .ref g] σ (fun v σ' => RdP C.top σ' v (shownD F ct) ∧ Ext σ σ') := by
  refine' Spec_defC (body := _ :: _) (DefOkC.of' (names := [_, _]) (ns := [_, _, _, _, _, _, _, _, _]) ?h1 ?h2 ?h3 ?h17 ?h18 ?h4 ?h5 ?h6 ?h7 ?h8 ?h16 ?h9 ?h10 ?h11 ?h12 ?h14 ?h15) ?_
  walk_at "dx"
  intro f hO
  have sw1 := f.blk
  have sw2 := f.kind_of (x := Str.ofString "told") (k := .local) rfl
  have hF' := hF
  obtain ⟨dx, L, vs, h1, h2, h3, h4⟩ := hF
  have hfew := ok.few
  have hlen : vs.length ≤ 1000 := by rw [h4.1]; omega
  refine TX_cons (TX_AssignListMap (fun D i w σ => ∃ q c, w = .ref q ∧ q ≠ D ∧ F.cs[i]? = some c ∧ σ q = some (.list .plain ([c.id, c.ac, c.dn, c.qt].map I))) F.cs.length (by omega) (by exact ⟨rfl, rfl, rfl, rfl⟩) (by intro y hy; simp at hy) (by rfl)
    (fun D i w σ₁ σ₂ hx ⟨q, c, e1, e2, e3, e4⟩ => ⟨q, c, e1, e2, e3, hx _ _ e2 e4⟩) (by unfold swapsWith; simp only [sw1, sw2]; rfl) (Stor_local rfl) ?_)
  refine TE_AttrV h1 h2 rfl (ao_components C) (by intro _ q; cases q) ?_ (TE_local (by rfl) ⟨rfl, rfl, rfl⟩)
  refine ⟨rfl, Ext.refl _, .lst L, vs, rfl, ⟨_, h3⟩, h4.1, fun D hD => ⟨fun fc i v m₂ σ₂ hv hm hE hDl => ?_, fun σ₂ ws hE2 hw hl hP => ?_⟩⟩
  · have hlt : i < F.cs.length := by rw [← h4.1]; exact (List.getElem?_eq_some_iff.mp hv).1
    obtain ⟨x', rfl, dc, k1, k2⟩ := h4.2 i v F.cs[i] hv (by simp [hlt])
    have hi : F.cs[i]? = some F.cs[i] := by simp [hlt]
    generalize F.cs[i] = c at *
    refine TE_List ?_
    refine TArgs_cons (TE_AttrV (hE _ _ k1) (hE _ _ k2) rfl (ao_ident C) (by intro _ q; cases q) ?_ (TE_local (by walk_at "lk") ⟨rfl, rfl, rfl⟩))
    refine TArgs_cons (TE_AttrV (hE _ _ k1) (hE _ _ k2) rfl (ao_across C) (by intro _ q; cases q) ?_ (TE_local (by walk_at "lk") ⟨rfl, rfl, rfl⟩))
    refine TArgs_cons (TE_AttrV (hE _ _ k1) (hE _ _ k2) rfl (ao_down C) (by intro _ q; cases q) ?_ (TE_local (by walk_at "lk") ⟨rfl, rfl, rfl⟩))
    refine TArgs_cons (TE_AttrV (hE _ _ k1) (hE _ _ k2) rfl (ao_quant C) (by intro _ q; cases q) ?_ (TE_local (by walk_at "lk") ⟨rfl, rfl, rfl⟩))
    repeat walk_at "t"
    refine ⟨by simp, fun q hq => ⟨rfl, Ext.new hq, q, c, rfl, ?_, hi, upd_self ..⟩⟩
    obtain ⟨us, hus⟩ := hDl
    exact (ne_new hus hq).symm
  have h1' := hE2 _ _ h1
  have h2' := hE2 _ _ h2
  refine Seq_next (TX_cons (TX_Assign (TE_List ?_)))
  refine TArgs_cons (TE_AttrV h1' h2' rfl (ao_kind C) (by intro _ q; cases q) ?_ (TE_local (by walk_at "lk") ⟨rfl, rfl, rfl⟩))
  refine TArgs_cons (TE_AttrV h1' h2' rfl (ao_precision C) (by intro _ q; cases q) ?_ (TE_local (by walk_at "lk") ⟨rfl, rfl, rfl⟩))
  refine TArgs_cons (TE_AttrV h1' h2' rfl (ao_width C) (by intro _ q; cases q) ?_ (TE_local (by walk_at "lk") ⟨rfl, rfl, rfl⟩))
  refine TArgs_cons (TE_AttrV h1' h2' rfl (ao_height C) (by intro _ q; cases q) ?_ (TE_local (by walk_at "lk") ⟨rfl, rfl, rfl⟩))
  refine TArgs_cons (TE_AttrV h1' h2' rfl (ao_n C) (by intro _ q; cases q) ?_ (TE_local (by walk_at "lk") ⟨rfl, rfl, rfl⟩))
  repeat walk_at "t"
  refine ⟨by simp, fun N hN => ?_⟩
  have hT2 : RdN (· = N) C.top σ₂ (.ref D) (.list (F.cs.map cmpD)) := .list (ne_new hw hN) hw (by rw [hl]; simp) fun i w d hw' hd => by
    obtain ⟨q, c, rfl, _, e3, e4⟩ := hP i w hw'
    rw [List.getElem?_map, e3] at hd
    cases hd
    exact rdNInts (ne_new e4 hN) e4
  have hTN := hT2.extB (σ' := upd σ₂ N (.list .plain [S (Str.ofString "progressive"), I 8, I F.w, I F.h, I 2, .ref D])) rfl ExtB.at
  clear hw hP hl hT2
  have hEN := hE2.thenNew (o := .list .plain [S (Str.ofString "progressive"), I 8, I F.w, I F.h, I 2, .ref D]) hN
  have hNN := upd_self σ₂ N (.list .plain [S (Str.ofString "progressive"), I 8, I F.w, I F.h, I 2, .ref D])
  have hN0 : σ N = none := none_of hE2 hN
  change Seq C f _ _ Flow.next _ (upd σ₂ N (.list .plain [S (Str.ofString "progressive"), I 8, I F.w, I F.h, I 2, .ref D]))
  generalize upd σ₂ N (.list .plain [S (Str.ofString "progressive"), I 8, I F.w, I F.h, I 2, .ref D]) = σ₃ at *
  let J : Nat → Store → Prop := fun k σ' => Ext σ σ' ∧ ∃ us, σ' N = some (.list .plain us) ∧ us.length = (shownL F ct k).length ∧ us.length ≤ 6 + k ∧ ∀ (i : Nat) v d, us[i]? = some v → (shownL F ct k)[i]? = some d → RdN (· = N) C.top σ' v d
  have hJ0 : J 0 σ₃ := ⟨hEN, _, hNN, rfl, by simp, fun i v d q1 q2 => by
    rcases i with _ | _ | _ | _ | _ | _ | i <;> simp [shownL] at q1 q2 <;> subst q1 q2
    · exact .str _
    · exact .int _
    · exact .int _
    · exact .int _
    · exact .int _
    · exact hTN⟩
  refine Seq_next (TX_cons (TX_For ?_))
  repeat walk_at "t"
  refine TE_AttrV (hEN _ _ h1) (hEN _ _ h2) rfl (ao_components C) (by intro _ q; cases q) ?_ (TE_local (by walk_at "lk") ⟨rfl, rfl, rfl⟩)
  repeat walk_at "t"
  refine CallV_lenL (hEN _ _ h3) hlen ?_
  repeat walk_at "t"
  intro R hR
  let G : LM → Prop := fun m => m.lookup (Str.ofString "frame") = some (.ref a) ∧ m.lookup (Str.ofString "grid") = some (.ref g) ∧ m.lookup (Str.ofString "found") = some (.ref N)
  have hER := Ext.new (o := .rng 0 vs.length 1) hR
  refine ⟨.rng R 0 vs.length 1, rangeItems 0 vs.length 1, fun k m₂ σ₄ => G m₂ ∧ σ₄ R = some (.rng 0 vs.length 1) ∧ J k σ₄, rfl,
    ⟨⟨by walk_at "lk", by walk_at "lk", by walk_at "lk"⟩, upd_self .., hEN.trans hER, let ⟨_, us, b1, b2, b3, b4⟩ := hJ0; ⟨us, hER _ _ b1, b2, b3, fun i v d q1 q2 => (b4 i v d q1 q2).extB rfl (hER.toB N)⟩⟩, fun k m₂ σ₄ q => ⟨q.2.1, range_small hlen, rfl⟩, ?_, ?_⟩
  · rintro k v m₂ σ₄ hv ⟨⟨g1, g2, g3⟩, hRk, hE4, us, hus, hul, hu6, hud⟩
    obtain ⟨hk, rfl⟩ := rangeItems_get hv
    have hkc : k < F.cs.length := by rw [← h4.1]; exact hk
    generalize hc : F.cs[k] = c
    have hc' : F.cs[k]? = some c := by rw [List.getElem?_eq_getElem hkc, hc]
    obtain ⟨b1, b2⟩ := ok.sh hc'
    have hsh := shape_at hc'
    have hF4 := hF'.ext hE4
    have hg4 := hg.ext hE4
    have hF4' := hF4
    obtain ⟨dx4, L4, vs4, p1, p2, p3, p4⟩ := hF4'
    refine TX_cons (TX_AssignTup2 (TE_MethV p1 p2 rfl (mo_padded C) (TE_local (by walk_at "lk") ⟨rfl, rfl, rfl⟩) ?_))
    repeat walk_at "t"
    refine CallV_spec ((padded_spec hF4 ok hc').mono fun v σ₅ hq_ => ?_)
    obtain ⟨t, e, ht, hE5⟩ := hq_
    subst e
    refine ⟨t, _, _, rfl, ht, ?_⟩
    have hpl : planeD F ct k = .list ((List.range ((mcA F * c.ac).toNat * (mcD F * c.dn).toNat)).map (cellD ct k (mcA F * c.ac).toNat)) := by unfold planeD; rw [hc']
    generalize ha : mcA F * c.ac = aa at *
    generalize hdd : mcD F * c.dn = dd at *
    obtain ⟨aN, rfl⟩ := Int.eq_ofNat_of_zero_le b1.1
    obtain ⟨dN, rfl⟩ := Int.eq_ofNat_of_zero_le b2.1
    simp only [Int.toNat_natCast] at hsh hpl
    have hmul : aN * dN ≤ 22 * 22 := Nat.mul_le_mul (by omega) (by omega)
    have hg5 := hg4.ext hE5
    refine Seq_next (TX_cons (TX_Expr (TE_append ?_)))
    repeat walk_at "t"
    refine ⟨N, _, us, rfl, hE5 _ _ hus, ?_⟩
    refine TE_ListComp2 (by exact ⟨rfl, rfl, rfl, rfl⟩) (by intro y hy; simp at hy; rcases hy with rfl | rfl | rfl <;> exact ⟨_, by walk_at "lk"⟩) (by rfl) (by rfl) ?_ (by intro _ _; rfl)
    repeat walk_at "t"
    intro R2 hR2
    have hE6 := Ext.new (o := .rng 0 dN 1) hR2
    refine ⟨rfl, .rng R2 0 dN 1, rangeItems 0 dN 1, rfl, ⟨upd_self .., range_small (by omega), rfl⟩, fun D2 hD2 => ?_⟩
    have hE7 := hE6.thenNew (o := .list .plain []) hD2
    have hD20 := none_of hE6 hD2
    let M : LM → Prop := fun m => m.lookup (Str.ofString "grid") = some (.ref g) ∧ m.lookup (Str.ofString "place") = some (I k) ∧ m.lookup (Str.ofString "across") = some (I aN)
    refine ⟨fun i m₃ σ₆ => M m₃ ∧ Ext σ₅ σ₆ ∧ σ₆ R2 = some (.rng 0 dN 1) ∧ PlaneL N σ₆ D2 ct k aN (aN * i), ⟨⟨?_, ?_, ?_⟩, hE7, upd_some (upd_self ..) (ne_new (upd_self ..) hD2), [], upd_self .., rfl, fun j w q => by simp at q⟩, fun i m₃ σ₆ q => ⟨q.2.2.1, range_small (by omega), rfl⟩, ?_, ?_⟩
    · rw [cellsOf_lookup (by rfl)]; walk_at "lk"
    · rw [cellsOf_lookup (by rfl)]; walk_at "lk"
    · rw [cellsOf_lookup (by rfl)]; walk_at "lk"
    · rintro fc i v m₃ σ₆ hv ⟨⟨f1, f2, f3⟩, hE56, hR26, hP6⟩
      obtain ⟨hi, rfl⟩ := rangeItems_get hv
      repeat walk_at "t"
      intro R3 hR3
      have hE67 := Ext.new (o := .rng 0 aN 1) hR3
      refine ⟨.rng R3 0 aN 1, rangeItems 0 aN 1, fun j m₄ σ₇ => M m₄ ∧ m₄.lookup (Str.ofString "y") = some (I i) ∧ Ext σ₅ σ₇ ∧ σ₇ R2 = some (.rng 0 dN 1) ∧ σ₇ R3 = some (.rng 0 aN 1) ∧ PlaneL N σ₇ D2 ct k aN (aN * i + j), rfl,
        ⟨⟨by walk_at "lk", by walk_at "lk", by walk_at "lk"⟩, by walk_at "lk", hE56.trans hE67, hE67 _ _ hR26, upd_self .., hP6.ext hE67⟩, fun j m₄ σ₇ q => ⟨q.2.2.2.2.1, range_small (by omega), rfl⟩, ?_, ?_⟩
      · rintro j u m₄ σ₇ hu ⟨⟨e1, e2, e3⟩, e4, hE57, hR27, hR37, hP7⟩
        obtain ⟨hj, rfl⟩ := rangeItems_get hu
        have hg7 := hg5.ext hE57
        have hg7' := hg7
        obtain ⟨gx, gA, gpl, z1, z2, _⟩ := hg7'
        obtain ⟨m1, m2⟩ := nat_mod (i := i) hj
        have hlt : aN * i + j < aN * dN := by
          have : aN * (i + 1) ≤ aN * dN := Nat.mul_le_mul_left _ hi
          rw [Nat.mul_add, Nat.mul_one] at this
          omega
        repeat walk_at "t"
        refine TE_MethV z1 z2 rfl (mo_get C) (TE_cell (by walk_at "lk") ⟨rfl, rfl, rfl⟩) ?_
        repeat walk_at "t"
        have hcell := hg7.cell hsh hj hi
        obtain ⟨_, _, _, _, _, _, _, u, _, _, _, _, _, _, _, _, hu', _⟩ := hcell
        refine CallV_spec ((get_spec hg7 hsh hj hi ⟨by omega, by omega, by omega⟩).mono fun v σ₈ hq_ => ?_)
        obtain ⟨q, e, hq, hE8⟩ := hq_
        subst e
        repeat walk_at "t"
        refine CallV_listL hq (by rw [List.length_map, cellVal_len hu']; decide) fun q2 hq2 => ?_
        have hE9 := hE8.thenNew (o := .list .plain ((cellVal (ct k j i)).map I)) hq2
        have hq9 := upd_self σ₈ q2 (.list .plain ((cellVal (ct k j i)).map I))
        have hP8 := hP7.ext hE8
        have hqD : q2 ≠ D2 ∧ q2 ≠ N := by
          obtain ⟨ws, w1, _⟩ := hP8
          exact ⟨(ne_new w1 hq2).symm, (ne_new (hE8 _ _ (hE57 _ _ (hE5 _ _ hus))) hq2).symm⟩
        have hP9 := hP7.ext hE9
        generalize upd σ₈ q2 (.list .plain ((cellVal (ct k j i)).map I)) = σ₉ at *
        obtain ⟨r, ws, w1, w2, w3⟩ := hP9.step (q := q2) (by rw [m1, m2]; exact hq9) hqD
        have hD2n : σ₅ D2 = none := hD20
        refine ⟨r, ws, w1, by omega, ⟨by walk_at "lk", by walk_at "lk", by walk_at "lk"⟩, by walk_at "lk", (hE57.trans hE9).own hD2n, ?_, ?_, w3⟩
        · exact upd_some (hE9 _ _ hR27) (ne_kind (hE9 _ _ hR27) w1 (by intro q; cases q))
        · exact upd_some (hE9 _ _ hR37) (ne_kind (hE9 _ _ hR37) w1 (by intro q; cases q))
      · rintro m₄ σ₇ ⟨hM, e4, hE57, hR27, hR37, hP7⟩
        rw [rangeItems_len] at hP7
        exact ⟨hM, hE57, hR27, by rw [Nat.mul_add, Nat.mul_one]; exact hP7⟩
    · rintro m₃ σ₆ ⟨hM, hE56, hR26, hP6⟩
      rw [rangeItems_len] at hP6
      have hE46 := hE5.trans hE56
      have hN6 := hE46 _ _ hus
      have hul' : us.length ≤ 1000 := by omega
      refine CallV_append hN6 hul' ⟨rfl, ?_⟩
      repeat walk_at "t"
      have hD6 : σ₄ D2 = none := none_of hE5 hD20
      have hDN : D2 ≠ N := fun z => by rw [z, hus] at hD6; cases hD6
      have hrd := hP6.rd (top := C.top) hDN
      rw [← hpl] at hrd
      refine ⟨⟨by walk_at "lk", by walk_at "lk", by walk_at "lk"⟩, upd_some (hE46 _ _ hRk) (ne_kind (hE46 _ _ hRk) hN6 (by intro q; cases q)), (hE4.trans hE46).own hN0, us ++ [.ref D2], upd_self .., ?_, ?_, fun i v d q1 q2 => ?_⟩
      · rw [shownL_succ, List.length_append, List.length_append, hul]; rfl
      · rw [List.length_append]; simp; omega
      · rw [shownL_succ] at q2
        rw [List.getElem?_append] at q1 q2
        rw [← hul] at q2
        split at q1
        · rename_i hlt
          rw [if_pos hlt] at q2
          exact ((hud i v d q1 q2).extB rfl (hE46.toB N)).extB rfl ExtB.at
        · rename_i hlt
          rw [if_neg hlt] at q2
          rw [List.getElem?_singleton] at q1 q2
          split at q1
          · rename_i hz
            rw [if_pos hz] at q2
            cases q1; cases q2
            exact hrd.extB rfl ExtB.at
          · cases q1
  · rintro m₂ σ₄ ⟨⟨g1, g2, g3⟩, hRk, hE4, us, hus, hul, hu6, hud⟩
    rw [rangeItems_len, h4.1] at hul hud
    repeat walk_at "t"
    exact ⟨.list (fun q => q) hus hul fun i v d q1 q2 => (hud i v d q1 q2).to (fun _ q => q.elim) fun _ _ _ e => e, hE4⟩

theorem led_place {w : Str} (hw : w ∈ words8) (x y a d : Int) : ledW w x y a d = placeW w x y a d := by
  simp only [words8, List.mem_cons, List.not_mem_nil, or_false] at hw
  rcases hw with rfl | rfl | rfl | rfl | rfl | rfl | rfl | rfl <;> rfl
theorem inW_lsw {w : Str} (hw : w ∈ words8) : inW lsw w = inW swpL w := by
  simp only [words8, List.mem_cons, List.not_mem_nil, or_false] at hw
  rcases hw with rfl | rfl | rfl | rfl | rfl | rfl | rfl | rfl <;> rfl
theorem bent_turn {w : Str} (hw : w ∈ words8) (r0 r1 r2 r3 : Int) : bentW w r0 r1 r2 r3 = turn4 w [r0, r1, r2, r3] := by
  simp only [words8, List.mem_cons, List.not_mem_nil, or_false] at hw
  rcases hw with rfl | rfl | rfl | rfl | rfl | rfl | rfl | rfl <;> simp only [bentW, bentL, turn4, tval] <;> first | rfl | (refine congrArg (r0 :: ·) ?_; rfl)

theorem four {l : List Int} (h : l.length = 4) : ∃ r0 r1 r2 r3, l = [r0, r1, r2, r3] := by
  match l, h with
  | [a, b, c, d], _ => exact ⟨a, b, c, d, rfl⟩

theorem rdTup5 {top : Heap} {σ : Store} {t : Addr} {a b c d : Int} {s : Str} (h : σ t = some (.tup [I a, I b, S s, I c, I d])) : Rd top σ (.ref t) (.tuple [.int a, .int b, .str s, .int c, .int d]) :=
  .tup h rfl fun i v e h1 h2 => by
    rcases i with _ | _ | _ | _ | _ | i <;> simp at h1 h2 <;> (subst h1 h2; first | exact .int _ | exact .str _)
theorem rdTup4 {top : Heap} {σ : Store} {t : Addr} {a b c d : Int} (h : σ t = some (.tup [I a, I b, I c, I d])) : Rd top σ (.ref t) (.tuple [.int a, .int b, .int c, .int d]) :=
  .tup h rfl fun i v e h1 h2 => by
    rcases i with _ | _ | _ | _ | i <;> simp at h1 h2 <;> (subst h1 h2; exact .int _)
theorem okTup5 (a b c d : Int) : okData (.tuple [.int a, .int b, .str (Str.ofString "progressive"), .int c, .int d]) := by
  refine ⟨?_, ?_⟩
  · have : PyData.strOk (Str.ofString "progressive") = true := by decide +kernel
    simp [PyData.canLay0, PyData.canLayAll0, this]
  · simp [PyData.depth, PyData.depthAll]
theorem okTup4 (a b c d : Int) : okData (.tuple [.int a, .int b, .int c, .int d]) := by
  refine ⟨?_, ?_⟩
  · simp [PyData.canLay0, PyData.canLayAll0]
  · simp [PyData.depth, PyData.depthAll]
theorem okIntsD (l : List Int) : okData (intsD l) := ⟨(okInts l).1, by have := (okInts l).2; omega⟩
section
variable {n : Nat} {ns : List (Str × NameKind)} {C : CC} {f : Fx n ns} {m : LM} {σ : Store}
theorem Op2_neSame {a b : Value} {d : PyData} {Q : Value → LM → Store → Prop} (ra : Rd C.top σ a d) (rb : Rd C.top σ b d) (hd : okData d) (h : Q (.bool false) m σ) : Op2 C f m σ (compareOp .NotEq) a b Q :=
  Op2_ned ra rb hd hd (by rw [PySem.SeqAt.eqv_refl d hd.1]; exact h)
end

set_option maxHeartbeats 4000000 in
theorem moved_right_spec {C : CC} {σ : Store} {a b g h : Addr} {F : Frm} {w : Str} {ct ct' : Cont} (hw : w ∈ words8) (hF : FrmAt σ a F) (ok : FrmOk F) (hb : FrmAt σ b (turnF F w)) (hg : GridAt σ g (shapeOf F) ct) (hh : GridAt σ h (shapeOf (turnF F w)) ct') (hD : AllDone F w ct ct') :
    Spec C 5 (.ref 553) [.ref a, .ref g, .ref b, .ref h, S w] σ (fun v σ' => v = .bool true ∧ Ext σ σ') := by
  refine' Spec_def (body := _ :: _) (DefOk.of' (names := [_, _, _, _, _]) (ns := [_, _, _, _, _, _, _, _, _, _, _, _, _, _, _, _, _, _, _, _, _]) ?h1 ?h2 ?h3 ?h17 ?h18 ?h4 ?h5 ?h6 ?h7 ?h8 ?h9 ?h10 ?h11 ?h12 ?h14 ?h15) ?_
  walk_at "dx"
  intro f
  have okw := ok8 hw
  have okt := ok.turn w
  have hfew := ok.few
  have hFa := hF
  obtain ⟨dx, L, vs, h1, h2, h3, h4⟩ := hFa
  have hFb := hb
  obtain ⟨ex, M, us, i1, i2, i3, i4⟩ := hFb
  have hul : us.length = F.cs.length := by rw [i4.1]; simp [turnF]
  have hvl : vs.length = F.cs.length := h4.1
  have hsw := inW_lsw hw
  repeat walk_at "t"
  refine ⟨by simp, fun t0 ht0 => Op2_inL4 okw (upd_self ..) lay_lsw ?_⟩
  have hE0 := Ext.new (o := .list .plain [S (Str.ofString "swap"), S (Str.ofString "cross"), S (Str.ofString "left"), S (Str.ofString "right")]) ht0
  generalize upd σ t0 (.list .plain [S (Str.ofString "swap"), S (Str.ofString "cross"), S (Str.ofString "left"), S (Str.ofString "right")]) = σ₁ at *
  change Seq C f _ _ Flow.next ((_, Value.bool (inW lsw w)) :: _) σ₁
  rw [hsw]
  generalize hs : inW swpL w = s at *
  let G : LM → Prop := fun m => m.lookup (Str.ofString "frame") = some (.ref a) ∧ m.lookup (Str.ofString "grid") = some (.ref g) ∧ m.lookup (Str.ofString "later") = some (.ref b) ∧ m.lookup (Str.ofString "found") = some (.ref h) ∧ m.lookup (Str.ofString "turn") = some (S w) ∧ m.lookup (Str.ofString "swaps") = some (.bool s)
  have q1 := hE0 _ _ h1
  have q2 := hE0 _ _ h2
  refine Seq_next (TX_cons (TX.mono (Q := fun fl m σ' => fl = .next ∧ G m ∧ Ext σ σ' ∧ ∃ t, m.lookup (Str.ofString "size") = some (.ref t) ∧ σ' t = some (.tup [I (turnF F w).w, I (turnF F w).h])) ?_ ?_))
  · repeat walk_at "t"
    have fin : ∀ {p q : Int}, p = (turnF F w).w → q = (turnF F w).h → ∀ t, σ₁ t = none → upd σ₁ t (.tup [I p, I q]) t = some (.tup [I (turnF F w).w, I (turnF F w).h]) := by
      rintro p q rfl rfl t _; exact upd_self ..
    refine iteB (fun hb => ?_) (fun hb => ?_)
    · refine TE_Tuple (TArgs_cons (TE_AttrV q1 q2 rfl (ao_height C) (by intro _ q; cases q) ?_ (TE_local (by rfl) ⟨rfl, rfl, rfl⟩)))
      refine TArgs_cons (TE_AttrV q1 q2 rfl (ao_width C) (by intro _ q; cases q) ?_ (TE_local (by rfl) ⟨rfl, rfl, rfl⟩))
      repeat walk_at "t"
      exact ⟨by simp, fun t ht => ⟨rfl, ⟨rfl, rfl, rfl, rfl, rfl, rfl⟩, hE0.thenNew ht, t, rfl, fin (by simp [turnF, hs, hb]) (by simp [turnF, hs, hb]) t ht⟩⟩
    · refine TE_Tuple (TArgs_cons (TE_AttrV q1 q2 rfl (ao_width C) (by intro _ q; cases q) ?_ (TE_local (by rfl) ⟨rfl, rfl, rfl⟩)))
      refine TArgs_cons (TE_AttrV q1 q2 rfl (ao_height C) (by intro _ q; cases q) ?_ (TE_local (by rfl) ⟨rfl, rfl, rfl⟩))
      repeat walk_at "t"
      exact ⟨by simp, fun t ht => ⟨rfl, ⟨rfl, rfl, rfl, rfl, rfl, rfl⟩, hE0.thenNew ht, t, rfl, fin (by simp [turnF, hs, hb]) (by simp [turnF, hs, hb]) t ht⟩⟩
  rintro fl m₂ σ₂ ⟨rfl, ⟨g1, g2, g3, g4, g5, g6⟩, hE2, ts, hts, hts'⟩
  clear q1 q2 hE0 ht0
  have p1 := hE2 _ _ i1
  have p2 := hE2 _ _ i2
  refine Seq_next (TX_cons (TX_If (TB_Compare ?_)))
  refine TE_Tuple (TArgs_cons (TE_AttrV p1 p2 rfl (ao_width C) (by intro _ q; cases q) ?_ (TE_local (by walk_at "lk") ⟨rfl, rfl, rfl⟩)))
  refine TArgs_cons (TE_AttrV p1 p2 rfl (ao_height C) (by intro _ q; cases q) ?_ (TE_local (by walk_at "lk") ⟨rfl, rfl, rfl⟩))
  refine TArgs_cons (TE_AttrV p1 p2 rfl (ao_kind C) (by intro _ q; cases q) ?_ (TE_local (by walk_at "lk") ⟨rfl, rfl, rfl⟩))
  refine TArgs_cons (TE_AttrV p1 p2 rfl (ao_precision C) (by intro _ q; cases q) ?_ (TE_local (by walk_at "lk") ⟨rfl, rfl, rfl⟩))
  refine TArgs_cons (TE_AttrV p1 p2 rfl (ao_n C) (by intro _ q; cases q) ?_ (TE_local (by walk_at "lk") ⟨rfl, rfl, rfl⟩))
  repeat walk_at "t"
  refine ⟨by simp, fun t1 ht1 => ?_⟩
  have hN1 := Ext.new (o := .tup [I (turnF F w).w, I (turnF F w).h, S (Str.ofString "progressive"), I 8, I 2]) ht1
  have hT1 := upd_self σ₂ t1 (.tup [I (turnF F w).w, I (turnF F w).h, S (Str.ofString "progressive"), I 8, I 2])
  generalize upd σ₂ t1 (.tup [I (turnF F w).w, I (turnF F w).h, S (Str.ofString "progressive"), I 8, I 2]) = σ₃ at *
  have hE3 := hE2.trans hN1
  repeat walk_at "t"
  refine TE_AttrV (hE3 _ _ h1) (hE3 _ _ h2) rfl (ao_kind C) (by intro _ q; cases q) ?_ (TE_local (by walk_at "lk") ⟨rfl, rfl, rfl⟩)
  refine TArgs_cons (TE_AttrV (hE3 _ _ h1) (hE3 _ _ h2) rfl (ao_precision C) (by intro _ q; cases q) ?_ (TE_local (by walk_at "lk") ⟨rfl, rfl, rfl⟩))
  repeat walk_at "t"
  refine ⟨by simp, fun t2 ht2 => ?_⟩
  have hN2 := Ext.new (o := .tup [S (Str.ofString "progressive"), I 8, I 2]) ht2
  refine Op2_addT (hN2 _ _ (hN1 _ _ hts')) (upd_self ..) (by intro q; cases q) (by intro q; cases q) (by simp) fun t3 ht3 => ?_
  have hN3 := hN2.thenNew (o := .tup ([I (turnF F w).w, I (turnF F w).h] ++ [S (Str.ofString "progressive"), I 8, I 2])) ht3
  have hE5 := hE3.trans hN3
  refine Op2_neSame (rdTup5 (hN3 _ _ hT1)) (rdTup5 (upd_self ..)) (okTup5 ..) ?_
  generalize upd (upd σ₃ t2 (.tup [S (Str.ofString "progressive"), I 8, I 2])) t3 (.tup ([I (turnF F w).w, I (turnF F w).h] ++ [S (Str.ofString "progressive"), I 8, I 2])) = σ₅ at *
  clear hN2 hN3 hN1 hT1 ht1 ht2 ht3 hE3 hE2 hts' p1 p2
  refine ⟨_, rfl, iteF (by decide) ?_⟩
  repeat walk_at "t"
  refine TX_For ?_
  repeat walk_at "t"
  refine TE_AttrV (hE5 _ _ h1) (hE5 _ _ h2) rfl (ao_components C) (by intro _ q; cases q) ?_ (TE_local (by walk_at "lk") ⟨rfl, rfl, rfl⟩)
  repeat walk_at "t"
  refine CallV_lenL (hE5 _ _ h3) (by omega) ?_
  repeat walk_at "t"
  intro R hR
  refine ⟨.rng R 0 vs.length 1, rangeItems 0 vs.length 1, fun k m₂ σ₄ => G m₂ ∧ σ₄ R = some (.rng 0 vs.length 1) ∧ Ext σ σ₄, rfl,
    ⟨⟨g1, g2, g3, g4, g5, g6⟩, upd_self .., hE5.thenNew hR⟩, fun k m₂ σ₄ q => ⟨q.2.1, range_small (by omega), rfl⟩, ?_, ?_⟩
  · rintro k v m₃ σ₆ hv ⟨⟨g1, g2, g3, g4, g5, g6⟩, hRk, hE6⟩
    obtain ⟨hk, rfl⟩ := rangeItems_get hv
    have hkc : k < F.cs.length := by omega
    generalize hc : F.cs[k] = c
    have hc' : F.cs[k]? = some c := by rw [List.getElem?_eq_getElem hkc, hc]
    have hct : (turnF F w).cs[k]? = some (turnC s c) := by simp only [turnF, List.getElem?_map, hc', hs]; rfl
    obtain ⟨b1, b2⟩ := ok.sh hc'
    have hsh := shape_at hc'
    have hst := shape_turn (w := w) hc'
    have hDk := hD k c hc'
    obtain ⟨x, xd, n0, n1, n2⟩ := (h4.ext hE6).get hc'
    obtain ⟨y, yd, o0, o1, o2⟩ := (i4.ext hE6).get hct
    refine TX_cons (TX_AssignSwap2 ?_ (swap_of (by rfl)))
    repeat walk_at "t"
    refine TE_AttrV (hE6 _ _ h1) (hE6 _ _ h2) rfl (ao_components C) (by intro _ q; cases q) ?_ (TE_local (by walk_at "lk") ⟨rfl, rfl, rfl⟩)
    repeat walk_at "t"
    refine ⟨L, k, .ref x, rfl, rfl, by omega, by omega, .inl ⟨_, _, hE6 _ _ h3, by simpa using n0⟩, ?_⟩
    repeat walk_at "t"
    refine TE_AttrV (hE6 _ _ i1) (hE6 _ _ i2) rfl (ao_components C) (by intro _ q; cases q) ?_ (TE_local (by walk_at "lk") ⟨rfl, rfl, rfl⟩)
    repeat walk_at "t"
    refine ⟨M, k, .ref y, rfl, rfl, by omega, by omega, .inl ⟨_, _, hE6 _ _ i3, by simpa using o0⟩, ?_⟩
    repeat walk_at "t"
    refine ⟨by simp, fun t ht => ⟨t, _, _, rfl, upd_self .., ?_⟩⟩
    have hN7 := Ext.new (o := .tup [.ref x, .ref y]) ht
    have hE7 := hE6.trans hN7
    have n17 := hN7 _ _ n1
    have n27 := hN7 _ _ n2
    have o17 := hN7 _ _ o1
    have o27 := hN7 _ _ o2
    have hR7 := hN7 _ _ hRk
    generalize upd σ₆ t (.tup [.ref x, .ref y]) = σ₇ at *
    clear hN7 n1 n2 o1 o2 hRk hE6
    refine Seq_next (TX_cons (TX.mono (Q := fun fl m σ' => fl = .next ∧ G m ∧ m.lookup (Str.ofString "place") = some (I k) ∧ m.lookup (Str.ofString "own") = some (.ref x) ∧ m.lookup (Str.ofString "other") = some (.ref y) ∧ Ext σ₇ σ' ∧ ∃ t, m.lookup (Str.ofString "dense") = some (.ref t) ∧ σ' t = some (.tup [I (turnC s c).ac, I (turnC s c).dn])) ?_ ?_))
    · repeat walk_at "t"
      have fin : ∀ {p q : Int}, p = (turnC s c).ac → q = (turnC s c).dn → ∀ t, σ₇ t = none → upd σ₇ t (.tup [I p, I q]) t = some (.tup [I (turnC s c).ac, I (turnC s c).dn]) := by
        rintro p q rfl rfl t _; exact upd_self ..
      refine iteB (fun hb => ?_) (fun hb => ?_)
      · refine TE_Tuple (TArgs_cons (TE_AttrV n17 n27 rfl (ao_down C) (by intro _ q; cases q) ?_ (TE_local (by walk_at "lk") ⟨rfl, rfl, rfl⟩)))
        refine TArgs_cons (TE_AttrV n17 n27 rfl (ao_across C) (by intro _ q; cases q) ?_ (TE_local (by walk_at "lk") ⟨rfl, rfl, rfl⟩))
        repeat walk_at "t"
        exact ⟨by simp, fun t ht => ⟨rfl, ⟨by walk_at "lk", by walk_at "lk", by walk_at "lk", by walk_at "lk", by walk_at "lk", by walk_at "lk"⟩, by walk_at "lk", by walk_at "lk", by walk_at "lk", Ext.new ht, t, by walk_at "lk", fin (by simp [turnC, hb]) (by simp [turnC, hb]) t ht⟩⟩
      · refine TE_Tuple (TArgs_cons (TE_AttrV n17 n27 rfl (ao_across C) (by intro _ q; cases q) ?_ (TE_local (by walk_at "lk") ⟨rfl, rfl, rfl⟩)))
        refine TArgs_cons (TE_AttrV n17 n27 rfl (ao_down C) (by intro _ q; cases q) ?_ (TE_local (by walk_at "lk") ⟨rfl, rfl, rfl⟩))
        repeat walk_at "t"
        exact ⟨by simp, fun t ht => ⟨rfl, ⟨by walk_at "lk", by walk_at "lk", by walk_at "lk", by walk_at "lk", by walk_at "lk", by walk_at "lk"⟩, by walk_at "lk", by walk_at "lk", by walk_at "lk", Ext.new ht, t, by walk_at "lk", fin (by simp [turnC, hb]) (by simp [turnC, hb]) t ht⟩⟩
    clear g1 g2 g3 g4 g5 g6
    rintro fl m₄ σ₈ ⟨rfl, ⟨g1, g2, g3, g4, g5, g6⟩, g7, g8, g9, hE78, td, htd, htd'⟩
    have n18 := hE78 _ _ n17
    have n28 := hE78 _ _ n27
    have o18 := hE78 _ _ o17
    have o28 := hE78 _ _ o27
    refine Seq_next (TX_cons (TX_If (TB_Compare ?_)))
    refine TE_Tuple (TArgs_cons (TE_AttrV o18 o28 rfl (ao_across C) (by intro _ q; cases q) ?_ (TE_local (by walk_at "lk") ⟨rfl, rfl, rfl⟩)))
    refine TArgs_cons (TE_AttrV o18 o28 rfl (ao_down C) (by intro _ q; cases q) ?_ (TE_local (by walk_at "lk") ⟨rfl, rfl, rfl⟩))
    refine TArgs_cons (TE_AttrV o18 o28 rfl (ao_ident C) (by intro _ q; cases q) ?_ (TE_local (by walk_at "lk") ⟨rfl, rfl, rfl⟩))
    refine TArgs_cons (TE_AttrV o18 o28 rfl (ao_quant C) (by intro _ q; cases q) ?_ (TE_local (by walk_at "lk") ⟨rfl, rfl, rfl⟩))
    repeat walk_at "t"
    refine ⟨by simp, fun t1 ht1 => ?_⟩
    have hN1 := Ext.new (o := .tup [I (turnC s c).ac, I (turnC s c).dn, I c.id, I c.qt]) ht1
    have hT1 := upd_self σ₈ t1 (.tup [I (turnC s c).ac, I (turnC s c).dn, I c.id, I c.qt])
    change TE C f _ (upd σ₈ t1 (.tup [I (turnC s c).ac, I (turnC s c).dn, I c.id, I c.qt])) _ _
    generalize upd σ₈ t1 (.tup [I (turnC s c).ac, I (turnC s c).dn, I c.id, I c.qt]) = σ₉ at *
    repeat walk_at "t"
    refine TE_AttrV (hN1 _ _ n18) (hN1 _ _ n28) rfl (ao_ident C) (by intro _ q; cases q) ?_ (TE_local (by walk_at "lk") ⟨rfl, rfl, rfl⟩)
    refine TArgs_cons (TE_AttrV (hN1 _ _ n18) (hN1 _ _ n28) rfl (ao_quant C) (by intro _ q; cases q) ?_ (TE_local (by walk_at "lk") ⟨rfl, rfl, rfl⟩))
    repeat walk_at "t"
    refine ⟨by simp, fun t2 ht2 => ?_⟩
    have hN2 := Ext.new (o := .tup [I c.id, I c.qt]) ht2
    refine Op2_addT (hN2 _ _ (hN1 _ _ htd')) (upd_self ..) (by intro q; cases q) (by intro q; cases q) (by simp) fun t3 ht3 => ?_
    have hN3 := hN2.thenNew (o := .tup ([I (turnC s c).ac, I (turnC s c).dn] ++ [I c.id, I c.qt])) ht3
    have hE10 := ((hE7.trans hE78).trans hN1).trans hN3
    have hR10 := hN3 _ _ (hN1 _ _ (hE78 _ _ hR7))
    refine Op2_neSame (rdTup4 (hN3 _ _ hT1)) (rdTup4 (upd_self ..)) (okTup4 ..) ?_
    generalize upd (upd σ₉ t2 (.tup [I c.id, I c.qt])) t3 (.tup ([I (turnC s c).ac, I (turnC s c).dn] ++ [I c.id, I c.qt])) = σ₁₀ at *
    clear hN1 hN2 hN3 hT1 ht1 ht2 ht3 n18 n28 o18 o28 htd' hE78 hE7 n17 n27 o17 o27 hR7
    refine ⟨_, rfl, iteF (by decide) ?_⟩
    repeat walk_at "t"
    refine TX_AssignTup2 (TE_MethV (hE10 _ _ h1) (hE10 _ _ h2) rfl (mo_padded C) (TE_local (by walk_at "lk") ⟨rfl, rfl, rfl⟩) ?_)
    repeat walk_at "t"
    refine CallV_spec ((padded_spec (hF.ext hE10) ok hc').mono fun v σ₁₁ hq_ => ?_)
    obtain ⟨t, e, ht, hE11⟩ := hq_
    subst e
    refine ⟨t, _, _, rfl, ht, ?_⟩
    replace hst : (shapeOf (turnF F w))[k]? = some (if inW swpL w then (mcD F * c.dn).toNat else (mcA F * c.ac).toNat, if inW swpL w then (mcA F * c.ac).toNat else (mcD F * c.dn).toNat) := by
      rw [hst]; cases inW swpL w <;> rfl
    generalize ha : mcA F * c.ac = aa at *
    generalize hdd : mcD F * c.dn = dd at *
    obtain ⟨aN, rfl⟩ := Int.eq_ofNat_of_zero_le b1.1
    obtain ⟨dN, rfl⟩ := Int.eq_ofNat_of_zero_le b2.1
    simp only [Int.toNat_natCast] at hsh hst hDk
    have hmul : aN * dN ≤ 22 * 22 := Nat.mul_le_mul (by omega) (by omega)
    have hE0_11 := hE10.trans hE11
    have hR11 := hE11 _ _ hR10
    clear hE10 hR10 hE11 ht
    repeat walk_at "t"
    refine TX_For ?_
    repeat walk_at "t"
    rw [show ((aN : Int) * (dN : Int)) = ((aN * dN : Nat) : Int) by simp]
    generalize hN : aN * dN = N at *
    intro R' hR'
    have hER' := Ext.new (o := .rng 0 N 1) hR'
    refine ⟨.rng R' 0 N 1, rangeItems 0 N 1, fun j m₅ σ₁₂ => G m₅ ∧ m₅.lookup (Str.ofString "place") = some (I k) ∧ m₅.lookup (Str.ofString "wide") = some (I aN) ∧ m₅.lookup (Str.ofString "high") = some (I dN) ∧ Ext σ σ₁₂ ∧ σ₁₂ R = some (.rng 0 vs.length 1) ∧ σ₁₂ R' = some (.rng 0 N 1), rfl,
      ⟨⟨by walk_at "lk", by walk_at "lk", by walk_at "lk", by walk_at "lk", by walk_at "lk", by walk_at "lk"⟩, by walk_at "lk", by walk_at "lk", by walk_at "lk", hE0_11.trans hER', hER' _ _ hR11, upd_self ..⟩, fun j m₅ σ₁₂ q => ⟨q.2.2.2.2.2.2, range_small (by omega), rfl⟩, ?_, ?_⟩
    · clear g1 g2 g3 g4 g5 g6 g7 g8 g9 hE0_11 hER' hR11
      rintro j v m₅ σ₁₂ hv ⟨⟨g1, g2, g3, g4, g5, g6⟩, g7, g8, g9, hE12, hR12, hR12'⟩
      obtain ⟨hj, rfl⟩ := rangeItems_get hv
      have haN : 0 < aN := by
        rcases Nat.eq_zero_or_pos aN with z | z
        · subst z; simp at hN; omega
        · exact z
      have hx : j % aN < aN := Nat.mod_lt _ haN
      have hy : j / aN < dN := by rw [Nat.div_lt_iff_lt_mul haN, Nat.mul_comm]; omega
      obtain ⟨w1, w2, w3, w4⟩ := placeN_is (w := w) hx hy
      repeat walk_at "t"
      refine Op2_floordiv (by omega) (by omega) ?_
      repeat walk_at "t"
      rw [fmod_nat, fdiv_nat]
      refine CallV_spec (led_spec.mono fun v σ₁₃ hq_ => ?_)
      obtain ⟨tg, e, htg, hE13⟩ := hq_
      subst e
      rw [led_place hw, w1, w2] at htg
      have hdone := hDk _ _ hx hy trivial
      generalize (placeN w (j % aN) (j / aN) aN dN).1 = px at *
      generalize (placeN w (j % aN) (j / aN) aN dN).2 = py at *
      have hE013 := hE12.trans hE13
      repeat walk_at "t"
      refine TE_MethV (hE013 _ _ i1) (hE013 _ _ i2) rfl (mo_blocks C) (TE_local (by walk_at "lk") ⟨rfl, rfl, rfl⟩) ?_
      repeat walk_at "t"
      refine CallV_spec ((blocks_spec (hb.ext hE013) okt hct).mono fun v σ₁₄ hq_ => ?_)
      obtain ⟨tb, si, sj, e, htb, hE14⟩ := hq_
      subst e
      have htg14 := hE14 _ _ htg
      have hE014 := hE013.trans hE14
      have hR14 := hE14 _ _ (hE13 _ _ hR12)
      have hR14' := hE14 _ _ (hE13 _ _ hR12')
      clear hE013 hE13 hE14 htg hE12 hR12 hR12'
      repeat walk_at "t"
      refine ⟨tg, 0, _, rfl, rfl, by decide, by decide, .inr ⟨_, htg14, rfl⟩, ?_⟩
      repeat walk_at "t"
      refine ⟨tb, 0, _, rfl, rfl, by decide, by decide, .inr ⟨_, htb, rfl⟩, ?_⟩
      repeat walk_at "t"
      refine iteB (fun hc1 => ?_) (fun hc1 => ?_)
      · repeat walk_at "t"
        refine ⟨tg, 1, _, rfl, rfl, by decide, by decide, .inr ⟨_, htg14, rfl⟩, ?_⟩
        repeat walk_at "t"
        refine ⟨tb, 1, _, rfl, rfl, by decide, by decide, .inr ⟨_, htb, rfl⟩, ?_⟩
        repeat walk_at "t"
        refine iteB (fun hc2 => ?_) (fun hc2 => ?_)
        · repeat walk_at "t"
          refine iteT rfl ?_
          have hh14 := hh.ext hE014
          have hh14' := hh14
          obtain ⟨hhx, hhA, hhpl, z1, z2, _⟩ := hh14'
          repeat walk_at "t"
          refine TE_MethV z1 z2 rfl (mo_get C) (TE_local (by walk_at "lk") ⟨rfl, rfl, rfl⟩) ?_
          repeat walk_at "t"
          refine ⟨tg, 0, _, rfl, rfl, by decide, by decide, .inr ⟨_, htg14, rfl⟩, ?_⟩
          repeat walk_at "t"
          refine ⟨tg, 1, _, rfl, rfl, by decide, by decide, .inr ⟨_, htg14, rfl⟩, ?_⟩
          repeat walk_at "t"
          refine CallV_spec ((get_spec hh14 hst w3 w4 ⟨by split <;> omega, by split <;> omega, by omega⟩).mono fun v σ₁₅ hq_ => ?_)
          obtain ⟨c1, e, hcc1, hE15⟩ := hq_
          subst e
          rw [hdone] at hcc1
          change σ₁₅ c1 = some (.list .plain ((turn4 w (cellVal (ct k (j % aN) (j / aN)))).map I)) at hcc1
          repeat walk_at "t"
          refine CallV_listL hcc1 (by simp [turn4]) fun e1 he1 => ?_
          have hE16 := hE15.thenNew (o := .list .plain ((turn4 w (cellVal (ct k (j % aN) (j / aN)))).map I)) he1
          have hq16 := upd_self σ₁₅ e1 (.list .plain ((turn4 w (cellVal (ct k (j % aN) (j / aN)))).map I))
          generalize upd σ₁₅ e1 (.list .plain ((turn4 w (cellVal (ct k (j % aN) (j / aN)))).map I)) = σ₁₆ at *
          have hE016 := hE014.trans hE16
          have hg16 := hg.ext hE016
          have hg16' := hg16
          obtain ⟨ggx, ggA, ggpl, y1, y2, _⟩ := hg16'
          repeat walk_at "t"
          refine TE_MethV y1 y2 rfl (mo_get C) (TE_local (by walk_at "lk") ⟨rfl, rfl, rfl⟩) ?_
          repeat walk_at "t"
          refine Op2_floordiv (by omega) (by omega) ?_
          repeat walk_at "t"
          rw [fmod_nat, fdiv_nat]
          obtain ⟨_, _, _, _, _, _, _, uu, _, _, _, _, _, _, _, _, hu', _⟩ := hg16.cell hsh hx hy
          obtain ⟨r0, r1, r2, r3, hr⟩ := four (cellVal_len hu')
          refine CallV_spec ((get_spec hg16 hsh hx hy ⟨by omega, by omega, by omega⟩).mono fun v σ₁₇ hq_ => ?_)
          obtain ⟨c2, e, hcc2, hE17⟩ := hq_
          subst e
          rw [hr] at hcc2 hq16
          repeat walk_at "t"
          refine CallV_spec ((bent_spec okw hcc2).mono fun v σ₁₈ hq_ => ?_)
          obtain ⟨c3, e, hcc3, hE18⟩ := hq_
          subst e
          rw [bent_turn hw] at hcc3
          refine Op2_neSame (rdInts (hE18 _ _ (hE17 _ _ hq16))) (rdInts hcc3) (okIntsD _) ⟨_, rfl, iteF (by decide) ?_⟩
          repeat walk_at "t"
          have hEe := (hE16.trans hE17).trans hE18
          exact ⟨⟨by walk_at "lk", by walk_at "lk", by walk_at "lk", by walk_at "lk", by walk_at "lk", by walk_at "lk"⟩, by walk_at "lk", by walk_at "lk", by walk_at "lk", hE014.trans hEe, hEe _ _ hR14, hEe _ _ hR14'⟩
        · refine iteF (by decide) ?_
          repeat walk_at "t"
          exact ⟨⟨by walk_at "lk", by walk_at "lk", by walk_at "lk", by walk_at "lk", by walk_at "lk", by walk_at "lk"⟩, by walk_at "lk", by walk_at "lk", by walk_at "lk", hE014, hR14, hR14'⟩
      · refine iteF (by decide) ?_
        repeat walk_at "t"
        exact ⟨⟨by walk_at "lk", by walk_at "lk", by walk_at "lk", by walk_at "lk", by walk_at "lk", by walk_at "lk"⟩, by walk_at "lk", by walk_at "lk", by walk_at "lk", hE014, hR14, hR14'⟩
    · rintro m₅ σ₁₂ ⟨hG, g7, g8, g9, hE12, hR12, hR12'⟩
      exact Seq_next (TX_nil ⟨hG, hR12, hE12⟩)
  · rintro m₃ σ₆ ⟨⟨g1, g2, g3, g4, g5, g6⟩, hRk, hE6⟩
    repeat walk_at "t"
    refine TE_AttrV (hE6 _ _ i1) (hE6 _ _ i2) rfl (ao_components C) (by intro _ q; cases q) ?_ (TE_local (by walk_at "lk") ⟨rfl, rfl, rfl⟩)
    repeat walk_at "t"
    refine CallV_lenL (hE6 _ _ i3) (by omega) ?_
    repeat walk_at "t"
    refine TE_AttrV (hE6 _ _ h1) (hE6 _ _ h2) rfl (ao_components C) (by intro _ q; cases q) ?_ (TE_local (by walk_at "lk") ⟨rfl, rfl, rfl⟩)
    repeat walk_at "t"
    refine CallV_lenL (hE6 _ _ h3) (by omega) ?_
    repeat walk_at "t"
    exact ⟨by rw [hul, hvl]; simp [retOf], hE6⟩

noncomputable def bmX : List Value := [.ref 31, .type "Exception", .type "BaseException", .type "object"]
theorem overX : Over "Exception" bmX := ⟨by decide +kernel, by decide +kernel, by decide +kernel, by decide +kernel⟩
theorem passX (self : Value) (cl : Addr) : refuseLoop self "__setattr__" (.ref cl :: bmX) = pure () := by
  rw [show bmX = [.ref 31, .type "Exception", .type "BaseException", .type "object"] from rfl, refuseLoop_ref, refuseLoop_ref]
  exact PySem.F.store_Exception.passes self
structure XC (C : CC) (cl : Addr) : Prop where
  obj : ∃ nm q N bs sn sub ab col dd k0 k1 k2 k3 k5, C.top.get? cl = some (excClassObj nm q cl N bs bmX true sn sub ab col dd k0 k1 k2 k3 k5 "Exception.__new__")
  ini : findIn (KK C.w.params) (.ref cl) "__init__" = some (some (.ref 28))
  sa : findIn (KK C.w.params) (.ref cl) "__setattr__" = some (some (.builtin "object.__setattr__"))
  msg : findIn (KK C.w.params) (.ref cl) "message" = some none
  kp : keepIn (KK C.w.params) (.ref cl) = true
theorem xc56 (C : CC) : XC C 56 := ⟨⟨_, _, _, _, _, _, _, _, _, _, _, _, _, _, C.X 56 _ (by k_is)⟩, by k_is, by k_is, by k_is, by k_is⟩
theorem xc44 (C : CC) : XC C 44 := ⟨⟨_, _, _, _, _, _, _, _, _, _, _, _, _, _, C.X 44 _ (by k_is)⟩, by k_is, by k_is, by k_is, by k_is⟩
theorem fn28 (C : CC) : ∃ o, C.top.get? 28 = some o ∧ o.cls = .type "function" := ⟨_, C.X 28 _ (by k_is), rfl⟩
theorem initOf (C : CC) : findCls (KK C.w.params) (.type "Exception") (.type "type") "__init__" = some (.val (.builtin "Exception.__init__")) := by k_is
theorem tyExc : typeOf (.type "Exception") = pure (.type "type") := by kernel_rfl
theorem stubExc : Manifest.isStub "Exception" = false := by decide +kernel

section
variable {n : Nat} {ns : List (Str × NameKind)} {C : CC} {f : Fx n ns} {m : LM} {σ : Store}
theorem St.poke {Fz : Addr → Prop} {s s' : Shared} {e : Addr} {oe : Obj} {vs : Array Value} (h : St C Fz f m (fun _ => none) s) (he : s.heap.get? e = some oe) (hd : oe.data = .fields vs) (hk : ∀ b o, b ≠ e → s.heap.get? b = some o → s'.heap.get? b = some o) (he' : ∃ o, s'.heap.get? e = some o)
    (ht : C.top.get? e = none) (ho : e ∉ f.own) (eg : s'.gens = s.gens) (eo : s'.os = s.os) : St C Fz f m (fun _ => none) s' := by
  have sm : ∀ b o, b ≠ e → s.heap.get? b = some o → s'.heap.get? b = s.heap.get? b := fun b o n e => (hk b o n e).trans e.symm
  have ex : ∀ b, (∃ o, s.heap.get? b = some o) → ∃ o, s'.heap.get? b = some o := fun b ⟨o, hb⟩ => by
    by_cases z : b = e
    · subst z; exact he'
    · exact ⟨o, hk b o z hb⟩
  refine ⟨fun b o q => hk b o (fun z => by subst z; rw [ht] at q; cases q) (h.keep b o q), h.above, h.loc.same ?_ fun x c hc => ?_, fun a o q => (by cases q), fun b hb => ⟨ex b (h.fz b hb).1, (h.fz b hb).2⟩, eg.trans h.gens, eo.trans h.os, fun b hb => ⟨(h.own b hb).1, ex b (h.own b hb).2⟩, h.loWn, h.cellsIn⟩
  · obtain ⟨_, o, q⟩ := h.own _ h.loWn
    exact sm _ o (fun z => ho (z ▸ h.loWn)) q
  · obtain ⟨v, o, q, qd⟩ := h.loc.cellEx x c hc
    exact sm c o (fun z => by subst z; rw [he] at q; cases q; rw [hd] at qd; cases qd) q
end

set_option maxHeartbeats 1000000 in
theorem init28 {C : CC} {cl : Addr} (X : XC C cl) {A : Around} (ha : AOk 1 A) {s : Shared} (hkp : ∀ b o, C.top.get? b = some o → s.heap.get? b = some o) (hg : s.gens = #[]) (hos : s.os = C.os) {e tt : Addr} {x : Str} {tk : Tok} (ht : C.top.get? e = none)
    (he : s.heap.get? e = some { cls := .ref cl, data := .fields #[.ref tt, .none, .none, .none, .bool false, .none] }) :
    codeAny (model pw C.w) A (.call (.ref 28) ⟨[.ref e, .str x tk], []⟩) (fun r s' => r = .ok (.ret .none) ∧ s'.gens = #[] ∧ s'.os = C.os ∧ (∀ b o, b ≠ e → s.heap.get? b = some o → s'.heap.get? b = some o) ∧
      ∃ D t', s'.heap.get? e = some { cls := .ref cl, dict := some D, data := .fields #[.ref t', .none, .none, .none, .bool false, .none] }) s := by
  refine' raw_def (body := _ :: _) (C := C) (σ := fun _ => none) (Fz := fun b => ∃ o, s.heap.get? b = some o) (args := [.ref e, S x]) (DefOk.of' (names := [_, _]) (ns := [_, _, _]) ?h1 ?h2 ?h3 ?h17 ?h18 ?h4 ?h5 ?h6 ?h7 ?h8 ?h9 ?h10 ?h11 ?h12 ?h14 ?h15) ha rfl ⟨hkp, (fun a o q => by cases q), fun b hb => hb, hg, hos⟩ ?_
  (case h1 => k_is); (case h2 => exact rfl); (case h3 => exact rfl); (case h17 => exact rfl); (case h18 => exact rfl); (case h4 => kernel_rfl)
  (case h5 => exact binds2 rfl (fun _ _ => rfl))
  (case h6 => decide +kernel); (case h7 => decide +kernel); (case h8 => decide +kernel)
  (case h9 => exact rfl); (case h10 => exact rfl); (case h11 => exact rfl); (case h12 => exact rfl); (case h14 => exact rfl); (case h15 => exact rfl)
  dsimp only [List.map, List.zip, List.zipWith]
  intro f s₀ hA hfrm hown hnew hk hst hAok
  obtain ⟨nm, q, N, bs, sn, sub, ab, col, dd, k0, k1, k2, k3, k5, hC⟩ := X.obj
  have eo : e ∉ f.own := by
    rw [hown]; intro z; rw [List.mem_singleton.mp z] at he; rw [hnew] at he; cases he
  have kk : ∀ {s₁ : Shared}, (∀ b, (∃ o, s.heap.get? b = some o) → s₁.heap.get? b = s₀.heap.get? b) → ∀ b o, s.heap.get? b = some o → s₁.heap.get? b = some o := fun h b o q => (h b ⟨o, q⟩).trans (hk b o q)
  refine wpAny_execs_cons (wpAny_Expr (MethodCall_ (T.runE (TE_ty (Q := fun v m' σ' => v = .type "Exception" ∧ m' = [(Str.ofString "self", .ref e), (Str.ofString "message", S x)] ∧ σ' = fun _ => none) (by k_is) (by boot_by_name) ⟨rfl, rfl, rfl⟩) hAok hst fun v m₁ σ₁ s₁ h1 f1 q1 => ?_) (by rfl)) (by unfold interactive; rw [f.hk]; rfl) (by rfl))
  obtain ⟨e1, rfl, rfl⟩ := q1
  have e1 : v = .type "Exception" := by cases v <;> simp [er] at e1; subst e1; rfl
  subst e1
  obtain ⟨m', hfr, _⟩ := h1.fr
  refine method_type hfr C.X tyExc stubExc (initOf C) (by decide +kernel) ?_
  have h1' := h1.toks (s' := { s₁ with toks := s₁.toks + 1 }) rfl rfl rfl
  refine callWith_any (C := C) (K' := KK C.w.params) .bi (by rfl) (T.runE (TArgs_cons (Q := fun vs m' σ' => vs = [.ref e, S x] ∧ m' = [(Str.ofString "self", .ref e), (Str.ofString "message", S x)] ∧ σ' = fun _ => none) (TE_local (by rfl) (TArgs_cons (TE_local (by rfl) (TArgs_nil ⟨rfl, rfl, rfl⟩))))) hAok h1' fun us m₂ σ₂ s₂ h2 f2 q2 => ⟨C.X.keeps h2.keep, ?_⟩)
  obtain ⟨eus, rfl, rfl⟩ := q2
  obtain ⟨u1, u2, rfl, ea, eb⟩ := map_er2 eus
  rw [er_ref ea]
  obtain ⟨tk2, rfl⟩ := er_str eb
  have f02 : ∀ b, (∃ o, s.heap.get? b = some o) → s₂.heap.get? b = s₀.heap.get? b := fun b hb => (f2 b hb).trans (f1 b hb)
  have he2 := kk f02 _ _ he
  obtain ⟨hp2, g2, d2, t2, os2⟩ := s₂
  refine x_init (bm := bmX) PySem.F.excBase_Exception overX (h2.keep _ _ hC) he2 fun h' t' hk' he' => ?_
  have h3 : St C (fun b => ∃ o, s.heap.get? b = some o) f [(Str.ofString "self", .ref e), (Str.ofString "message", S x)] (fun _ => none) ⟨h', g2, d2, t2, os2⟩ := St.poke h2 he2 rfl hk' ⟨_, he'⟩ ht eo rfl rfl
  refine wpAny_execs_cons (plainObj_wpAny_Assign_Attribute (T.runE (TE_local (Q := fun v m' σ' => v = S x ∧ m' = [(Str.ofString "self", .ref e), (Str.ofString "message", S x)] ∧ σ' = fun _ => none) (by rfl) ⟨rfl, rfl, rfl⟩) hAok h3 fun v m₄ σ₄ s₄ h4 f4 q4 => ?_) (by rfl))
  obtain ⟨ev, rfl, rfl⟩ := q4
  refine T.runE (TE_local (Q := fun v m' σ' => v = .ref e ∧ m' = [(Str.ofString "self", .ref e), (Str.ofString "message", S x)] ∧ σ' = fun _ => none) (by rfl) ⟨rfl, rfl, rfl⟩) hAok h4 fun ov m₅ σ₅ s₅ h5 f5 q5 => ?_
  obtain ⟨eov, rfl, rfl⟩ := q5
  rw [er_ref eov]
  have f35 : ∀ b, (∃ o, s.heap.get? b = some o) → s₅.heap.get? b = h'.get? b := fun b hb => (f5 b hb).trans (f4 b hb)
  have he5 := (f35 e ⟨_, he⟩).trans he'
  have X5 := C.X.keeps h5.keep
  have hC5 := h5.keep _ _ hC
  obtain ⟨hp5, g5, d5, t5, os5⟩ := s₅
  refine x_setattr (bm := bmX) PySem.F.store_Exception (by rw [List.contains_cons, PySem.F.store_Exception.hasOwner |> fun h => (by decide +kernel : bmX.contains (.type "object") = true), Bool.or_true]) (passX _ _) hC5 (looks_findIn X5 X.sa) (looks_findIn X5 X.msg) he5 fun h'' tk' D hk'' he'' => ?_
  refine wpAny_execs_nil ⟨rfl, h5.gens, h5.os, fun b o hbe hb => ?_, D, t', he''⟩
  exact hk'' b o hbe ((f35 b ⟨o, hb⟩).trans (hk' b o hbe (kk f02 b o hb)))

theorem make_exc {C : CC} {cl : Addr} (X : XC C cl) {A : Around} (ha : AOk 3 A) {E : Value → Shared → Prop} {s : Shared} (hkp : ∀ b o, C.top.get? b = some o → s.heap.get? b = some o) (hg : s.gens = #[]) (hos : s.os = C.os) {x : Str} {tk : Tok} {Q : Value → Shared → Prop}
    (hq : ∀ s' e D t', s.heap.get? e = none → (∀ b o, s.heap.get? b = some o → s'.heap.get? b = some o) → s'.heap.get? e = some { cls := .ref cl, dict := some D, data := .fields #[.ref t', .none, .none, .none, .bool false, .none] } → s'.gens = #[] → s'.os = C.os → Q (.ref e) s') :
    wpAny (model pw C.w) A (call (.ref cl) [.str x tk]) Q E s := by
  obtain ⟨nm, q, N, bs, sn, sub, ab, col, dd, k0, k1, k2, k3, k5, hC⟩ := X.obj
  obtain ⟨oI, hfI, hfc⟩ := fn28 C
  have XK := C.X.keeps hkp
  obtain ⟨hp, g, d, t, os⟩ := s
  refine x_call (bm := bmX) PySem.F.excBase_Exception overX (hkp _ _ hC) (looks_findIn XK X.ini) (hkp _ _ hfI) hfc fun h' e hm => ?_
  obtain ⟨t', he, _, _⟩ := hm.there
  have hte : C.top.get? e = none := by
    cases z : C.top.get? e with
    | none => rfl
    | some o => have := hm.new; rw [hkp _ _ z] at this; cases this
  refine wpAny_call (codeAny_mono (init28 X (A := A.under (.builtin "type.__call__" ⟨[.ref cl, .str x tk], []⟩)) ⟨?_, ?_, ?_⟩ (s := ⟨h', g, d, t, os⟩) (fun b o z => hm.keeps _ _ (hkp _ _ z)) hg hos hte he) fun r s' ⟨e1, e2, e3, e4, D, t2, e5⟩ => ?_)
  · rw [depth_under_make]; have := ha.1; omega
  · rw [units_under_make]; have := ha.2.1; omega
  · exact ha.2.2
  · subst e1
    exact ⟨rfl, hq s' e D t2 hm.new (fun b o z => e4 b o (fun w => by subst w; have := hm.new; rw [z] at this; cases this) (hm.keeps _ _ z)) e5 e2 e3⟩

section
variable {n : Nat} {ns : List (Str × NameKind)} {C : CC} {f : Fx n ns} {m : LM} {σ : Store}
theorem TR_Raise {cl : Addr} (X : XC C cl) {outer : List Env} (fo : FrOk f outer) {x : Str} {np cpos pos : Pos} {arg : Expr} (hn : 3 ≤ n)
    (hx : TE C f m σ (.Name x np) (fun v m' σ' => v = .ref cl ∧ m' = m ∧ σ' = σ))
    (h : TE C f m σ arg (fun v m' σ' => (∃ w, v = S w) ∧ ∀ a o, σ a = some o → σ' a = some o))
    (he : ∀ e, eval (.Call (.Name x np) [arg] [] cpos) e = (do callWith cpos (← eval (.Name x np) e) [] (backTo cpos (starEach [arg] e)) (backToKw cpos (keywordEach [] e))) := by (intro _; rfl))
    (hp : ((backTo cpos (starEach [arg] f.env)).any (·.1)) = false := by rfl) (hst : starEach [arg] f.env = (false, eval arg f.env) :: starEach [] f.env := by rfl) :
    TR C f outer m σ (exec (.Raise (some (.Call (.Name x np) [arg] [] cpos)) none pos) f.env) (.ref cl) := fun ha Fz s hs hf hz => by
  obtain ⟨nm, q, N, bs, sn, sub, ab, col, dd, k0, k1, k2, k3, k5, hC⟩ := X.obj
  rw [arm_exec_Raise]
  refine wpAny_bind (wpAny_standAt ?_)
  show wpAny _ _ (raiseStmt f.env (some (do let v ← eval (.Call (.Name x np) [arg] [] cpos) f.env; standAt pos; pure v)) none) _ _ _
  refine x_raise (C := cl) (bm := bmX) (nm := nm) (q := q) (N := N) (bs := bs) (hdct := true) (sn := sn) (sub := sub) (ab := ab) (col := col) (dd := dd) (k0 := k0) (k1 := k1) (k2 := k2) (k3 := k3) (k5 := k5) (newId := "Exception.__new__") overX ha.2.2 (wpAny_bind (Call_ (hx.runE ha hs fun fv m' σ' s' h1 f1 q1 => ?_) (he _)))
  obtain ⟨e1, rfl, rfl⟩ := q1
  rw [er_ref e1]
  refine callWith_any (C := C) (.fn X.kp) hp (T.runE (TArgs_cons (Q := fun vs _ σ₂ => (∃ w, vs = [S w]) ∧ ∀ a o, σ' a = some o → σ₂ a = some o) (TE.mono h fun v m₂ σ₂ ⟨⟨w, ew⟩, hE⟩ => TArgs_nil ⟨⟨w, by rw [ew]⟩, hE⟩) hst) ha h1 fun us m₂ σ₂ s₂ h2 f2 q2 => ⟨C.X.keeps h2.keep, ?_⟩)
  obtain ⟨⟨w, ew⟩, hE⟩ := q2
  obtain ⟨u, rfl, eu⟩ := map_er1 ew
  obtain ⟨tk, rfl⟩ := er_str eu
  refine make_exc X (ha.le hn) h2.keep h2.gens h2.os fun s₃ e D t' a1 a2 a3 a4 a5 => ?_
  refine wpAny_bind (wpAny_standAt (wpAny_pure ⟨e, t', some D, rfl, a2 _ _ (h2.keep _ _ hC), a3, ?_⟩))
  have f02 : ∀ b, Fz b → s₂.heap.get? b = s.heap.get? b := fun b hb => (f2 b hb).trans (f1 b hb)
  have eqL : ∀ env ∈ outer, ∀ L, env.frame = some L → s₂.heap.get? L = s.heap.get? L := fun env he L hfr => f02 L (hz env he L hfr)
  refine wpAny_mono (leave_made fo h2 (FunFrames.heap' hf eqL) hz a2 a1 a3 rfl rfl rfl (a4.trans h2.gens.symm) (a5.trans h2.os.symm)) (fun _ s'' ⟨a, e', hfl⟩ => ⟨a, e', hfl.from' hE eqL⟩) fun _ _ x => x
end

section
variable {n : Nat} {ns : List (Str × NameKind)} {C : CC} {f : Fx n ns} {m : LM} {σ : Store}
theorem Op2_adds {x y : Str} {Q : Value → LM → Store → Prop} (hsz : x.length + y.length ≤ 1000) (h : Q (S (x ++ y)) m σ) : Op2 C f m σ (binaryOp .Add) (S x) (S y) Q := fun u v hu hv => by
  obtain ⟨_, rfl⟩ := er_str hu
  obtain ⟨_, rfl⟩ := er_str hv
  exact fun _ _ _ hs => PyProof.Rows.add_str (fun _ _ => ⟨m, σ, hs.toks rfl rfl rfl, fun _ _ => rfl, h⟩) (by rw [sizeLine_eq]; omega)
end

set_option maxHeartbeats 1000000 in
theorem check_word_raises {C : CC} {σ : Store} {w : Str} (hw : okData (.str w)) (hl : w.length ≤ 100) (h : inW wrdL w = false) : SpecR C 4 (.ref 440) [S w] σ (.ref 56) := by
  refine' SpecR_def (body := _ :: _) (DefOk.of' (names := [_]) (ns := [_, _, _, _]) ?h1 ?h2 ?h3 ?h17 ?h18 ?h4 ?h5 ?h6 ?h7 ?h8 ?h9 ?h10 ?h11 ?h12 ?h14 ?h15) ?_
  (case h1 => k_is); (case h2 => exact rfl); (case h3 => exact rfl); (case h17 => exact rfl); (case h18 => exact rfl); (case h4 => kernel_rfl)
  (case h5 => exact binds1 rfl (fun _ => rfl))
  (case h6 => decide +kernel); (case h7 => decide +kernel); (case h8 => decide +kernel)
  (case h9 => exact rfl); (case h10 => exact rfl); (case h11 => exact rfl); (case h12 => exact rfl); (case h14 => exact rfl); (case h15 => exact rfl)
  dsimp only [List.map, List.zip, List.zipWith]
  intro f outer fo
  refine TRX_here (TRX_If ?_)
  repeat walk_at "t"
  walk_at "w"
  refine ⟨_, rfl, by rw [h]; rfl, fun _ _ q => q, ?_⟩
  refine TRX_here (TR_Raise (xc56 C) fo (by decide) (TE_globR (by k_is) ⟨rfl, rfl, rfl⟩) ?_)
  repeat walk_at "t"
  refine CallV_strS ?_
  refine Op2_adds ?_ ⟨⟨_, rfl⟩, fun _ _ q => q⟩
  have : (Str.ofString "no such turn: ").length ≤ 100 := by decide +kernel
  omega

set_option maxHeartbeats 1000000 in
theorem grid_bad_word {C : CC} {σ : Store} {g a : Addr} {w : Str} (hw : okData (.str w)) (hl : w.length ≤ 100) (h : inW wrdL w = false) : SpecR C 5 (.ref 489) [.ref g, .ref a, S w] σ (.ref 56) := by
  refine' SpecR_def (body := _ :: _) (DefOk.of' (names := [_, _, _]) (ns := [_, _, _, _, _, _, _, _, _, _, _, _, _, _]) ?h1 ?h2 ?h3 ?h17 ?h18 ?h4 ?h5 ?h6 ?h7 ?h8 ?h9 ?h10 ?h11 ?h12 ?h14 ?h15) ?_
  (case h1 => k_is); (case h2 => exact rfl); (case h3 => exact rfl); (case h17 => exact rfl); (case h18 => exact rfl); (case h4 => kernel_rfl)
  (case h5 => exact binds3 rfl (fun _ _ _ => rfl))
  (case h6 => decide +kernel); (case h7 => decide +kernel); (case h8 => decide +kernel)
  (case h9 => exact rfl); (case h10 => exact rfl); (case h11 => exact rfl); (case h12 => exact rfl); (case h14 => exact rfl); (case h15 => exact rfl)
  dsimp only [List.map, List.zip, List.zipWith]
  intro f outer fo
  refine TRX_here (TRX_Expr (TR_Call fo ?_))
  repeat walk_at "t"
  exact ⟨fun _ _ q => q, CallR_spec fo (check_word_raises hw hl h)⟩

set_option maxHeartbeats 1000000 in
theorem grid_rest {C : CC} {σ : Store} {g a : Addr} {F : Frm} {w : Str} (hw : okData (.str w)) (hwd : inW wrdL w = true) (hwh : wholeW F w = false) (hF : FrmAt σ a F) (ok : FrmOk F) : SpecR C 5 (.ref 489) [.ref g, .ref a, S w] σ (.ref 44) := by
  refine' SpecR_def (body := _ :: _) (DefOk.of' (names := [_, _, _]) (ns := [_, _, _, _, _, _, _, _, _, _, _, _, _, _]) ?h1 ?h2 ?h3 ?h17 ?h18 ?h4 ?h5 ?h6 ?h7 ?h8 ?h9 ?h10 ?h11 ?h12 ?h14 ?h15) ?_
  (case h1 => k_is); (case h2 => exact rfl); (case h3 => exact rfl); (case h17 => exact rfl); (case h18 => exact rfl); (case h4 => kernel_rfl)
  (case h5 => exact binds3 rfl (fun _ _ _ => rfl))
  (case h6 => decide +kernel); (case h7 => decide +kernel); (case h8 => decide +kernel)
  (case h9 => exact rfl); (case h10 => exact rfl); (case h11 => exact rfl); (case h12 => exact rfl); (case h14 => exact rfl); (case h15 => exact rfl)
  dsimp only [List.map, List.zip, List.zipWith]
  intro f outer fo
  refine TRX_next (TX_Expr ?_)
  repeat walk_at "t"
  refine CallV_spec ((check_word_spec hw hwd).mono fun v σ₁ hq_ => ?_)
  obtain ⟨e, e'⟩ := hq_
  subst e e'
  refine ⟨rfl, rfl, fun _ _ q => q, ?_⟩
  refine TRX_here (TRX_If ?_)
  repeat walk_at "t"
  refine CallV_spec ((is_whole_spec hw hF ok).mono fun v σ₁ hq_ => ?_)
  obtain ⟨e, hE1⟩ := hq_
  subst e
  refine ⟨_, rfl, by rw [hwh]; rfl, hE1, ?_⟩
  refine TRX_here (TR_Raise (xc44 C) fo (by decide) (TE_globR (by k_is) ⟨rfl, rfl, rfl⟩) ?_)
  repeat walk_at "t"
  exact ⟨⟨_, rfl⟩, fun _ _ q => q⟩

theorem excMatches_not {M : Model} {A : Around} {E : Value → Shared → Prop} {s : Shared} {e C D : Addr} {oe : Obj} {Q : Bool → Shared → Prop}
    {nm q : Str} {N : Addr} {bs bm : List Value} {hdct : Bool} {sn : List Str} {sub : List Value} {ab : Bool} {col : Option Bool} {dd : Option Addr} {k0 k1 k2 k3 k5 : Option Value} {newId : String}
    {nm' q' : Str} {N' : Addr} {bs' bm' : List Value} {hdct' : Bool} {sn' : List Str} {sub' : List Value} {ab' : Bool} {col' : Option Bool} {dd' : Option Addr} {k0' k1' k2' k3' k5' : Option Value} {newId' : String}
    (hC : s.heap.get? C = some (excClassObj nm q C N bs bm hdct sn sub ab col dd k0 k1 k2 k3 k5 newId)) (hD : s.heap.get? D = some (excClassObj nm' q' D N' bs' bm' hdct' sn' sub' ab' col' dd' k0' k1' k2' k3' k5' newId'))
    (he : s.heap.get? e = some oe) (hcls : oe.cls = .ref C) (hbase : bm'.contains (.type "BaseException") = true) (hno : (Value.ref C :: bm).contains (.ref D) = false) (hq : Q false s) : wpAny M A (excMatches (.ref e) (.ref D)) Q E s := by
  have hcB : (Value.ref D :: bm').contains (.type "BaseException") = true := by rw [List.contains_cons, hbase, Bool.or_true]
  have f := tc_notTuple
  obtain ⟨hp, g, d, t, os⟩ := s
  unfold excMatches
  repeat (first | (with_reducible refine wpAny_loadPart_at he ?_; rw [hcls]) | with_reducible refine wpAny_loadPart_at hD ?_ | (with_reducible refine wpAny_isSubtype_exc hD ?_; rw [hcB]) | (with_reducible refine wpAny_isSubtype_exc hC ?_; rw [hno]) | wp_step)
  exact hq

theorem glob_name {n : Nat} {ns : List (Str × NameKind)} {C : CC} {f : Fx n ns} {A : Around} {E : Value → Shared → Prop} {s : Shared} {x : Str} {pos : Pos} {v : Value} {Q : Value → Shared → Prop} (hkeep : ∀ b o, C.top.get? b = some o → s.heap.get? b = some o) (hv : C.mg x = some v) (h : Q v s)
    (hl : ns.lookup x = some .globalImplicit := by rfl) (hd : (x == ("__debug__" : Str)) = false := by decide) : wpAny (model pw C.w) A (eval (.Name x pos) f.env) Q E s :=
  Name_function_global f.hk (f.kind_of hl) (loadGlobal_global (by rw [f.hg]; exact C.g.keeps hkeep) hv h) hd

noncomputable def ansOf (cl : Addr) : Str := if cl = 44 then Str.ofString "frame" else Str.ofString "range"
structure Back (C : CC) (outer : List Env) (σ : Store) (s s' : Shared) : Prop where
  keep : ∀ b o, C.top.get? b = some o → s'.heap.get? b = some o
  sto : ∀ a o, σ a = some o → Conc s'.heap a o
  slots : ∀ env ∈ outer, ∀ L o, env.frame = some L → s.heap.get? L = some o → (∀ vs, o.data ≠ .fields vs) → ∃ sl, s'.heap.get? L = some { o with slots := sl }
  gens : s'.gens = #[]
  os : s'.os = C.os

set_option maxHeartbeats 1000000 in
theorem refused_spec {C : CC} {σ : Store} {g a cl : Addr} {w : Str} (hcl : cl = 44 ∨ cl = 56) (hR : SpecR C 5 (.ref 489) [.ref g, .ref a, S w] σ (.ref cl)) {A : Around} {outer : List Env} (ha : AOk 6 A) (hfr : A.frames = some outer) {s : Shared} {ws : List Value} (hws : ws.map er = [.ref g, .ref a, S w])
    (hOw : Owns C (fun b => ∃ env ∈ outer, env.frame = some b) σ s) (hF : s.heap.FunFrames C.top outer) :
    codeAny (model pw C.w) A (.call (.ref 560) ⟨ws, []⟩) (fun r s' => (∃ v, r = .ok (.ret v) ∧ er v = S (ansOf cl)) ∧ Back C outer σ s s') s := by
  refine' raw_def (body := _ :: _) (args := [.ref g, .ref a, S w]) (DefOk.of' (names := [_, _, _]) (ns := [_, _, _, _, _, _]) ?h1 ?h2 ?h3 ?h17 ?h18 ?h4 ?h5 ?h6 ?h7 ?h8 ?h9 ?h10 ?h11 ?h12 ?h14 ?h15) ha hws hOw ?_
  (case h1 => k_is); (case h2 => exact rfl); (case h3 => exact rfl); (case h17 => exact rfl); (case h18 => exact rfl); (case h4 => kernel_rfl)
  (case h5 => exact binds3 rfl (fun _ _ _ => rfl))
  (case h6 => decide +kernel); (case h7 => decide +kernel); (case h8 => decide +kernel)
  (case h9 => exact rfl); (case h10 => exact rfl); (case h11 => exact rfl); (case h12 => exact rfl); (case h14 => exact rfl); (case h15 => exact rfl)
  dsimp only [List.map, List.zip, List.zipWith]
  intro f s₀ hA hfrm hown hnew hk hst hAok
  have fo : FrOk f outer := ⟨by rw [hA]; exact Around.frames_deeper hfr, hfrm, hown⟩
  have hz : ∀ env ∈ outer, ∀ L, env.frame = some L → (fun b => ∃ env ∈ outer, env.frame = some b) L := fun env he L hL => ⟨env, he, hL⟩
  have eqL : ∀ env ∈ outer, ∀ L, env.frame = some L → s₀.heap.get? L = s.heap.get? L := fun env he L hfr' => by
    obtain ⟨L', o, h1, _, h3, _⟩ := FunFrames.mem' hF env he
    rw [h1] at hfr'; cases hfr'
    exact (hk _ _ h3).trans h3.symm
  have hF0 := FunFrames.heap' hF eqL
  obtain ⟨nm, q, N, bs, sn, sub, ab, col, dd, k0, k1, k2, k3, k5, h56⟩ := (xc56 C).obj
  obtain ⟨nm', q', N', bs', sn', sub', ab', col', dd', k0', k1', k2', k3', k5', h44⟩ := (xc44 C).obj
  have hm44 : C.mg (Str.ofString "FrameError") = some (.ref 44) := C.glob (by k_is)
  have hm56 : C.mg (Str.ofString "RangeError") = some (.ref 56) := C.glob (by k_is)
  refine wpAny_execs_cons (wpAny_Try_except (wpAny_execs_cons (wpAny_Expr (wpAny_mono (eval_CallR (outer := outer) (cls := .ref cl) (Q := fun _ _ => False) ?_ hAok hst hF0 hz) (fun _ _ x => x.elim) ?_) (by unfold interactive; rw [f.hk]; rfl) (by rfl))))
  · repeat walk_at "t"
    exact ⟨fun _ _ q => q, CallR_spec fo hR⟩
  rintro e s₁ ⟨x, s₂, rfl, hfl, hfz⟩
  obtain ⟨base, t, b1, b2, b3⟩ := hfl.fly
  refine wpAny_looks_onW fo.frames fo.frame b3 fun h₄ hheld₄ hsm₄ => ?_
  refine wpAny_landsW hheld₄ fun h₅ hfl5 hsm₅ => ?_
  obtain ⟨oe, hoe, hoec⟩ := hfl5.there
  have keep5 : ∀ b o, C.top.get? b = some o → h₅.get? b = some o := fun b o z => hfl5.1 b o (b1 b o z)
  have fin : ∀ s₆ : Shared, Heap.FlyingW base (f.env :: outer) x (.ref cl) (.ref t) s₆.heap → h₅.UpToSlots s₆.heap → s₆.gens = s₁.gens → s₆.os = s₁.os → Back C outer σ s s₆ := fun s₆ hfl6 hsm₆ eg eo => by
    refine ⟨fun b o z => hfl6.1 b o (b1 b o z), fun a o z => ?_, fun env he L o hfr' hLo hnf => ?_, eg.trans hfl.gens, eo.trans hfl.os⟩
    · have c := b2 a o z
      obtain ⟨ob, hob⟩ := c.some
      exact c.same ((hfl6.1 _ _ hob).trans hob.symm)
    · have e2 : s₂.heap.get? L = some o := ((hfz L ⟨env, he, hfr'⟩).trans (eqL env he L hfr')).trans hLo
      obtain ⟨sl, hs⟩ := hfl.slots env (.tail _ he) L o hfr' e2 hnf
      obtain ⟨sl', hs'⟩ := ((hsm₄.trans hsm₅).trans hsm₆) L _ hs hnf
      exact ⟨sl', hs'⟩
  rcases hcl with rfl | rfl
  · refine wpAny_handleBy_cons (codeAny_handlers_test (glob_name (f := f) keep5 hm44 ?_)) (by intro q; cases q)
    refine wpAny_excMatches_sub_self (keep5 _ _ h44) hoe hoec (by decide +kernel) (codeAny_handlers_suite ?_)
    refine lands_againW hfl5 fun h₆ hfl6 hsm₆ => ?_
    refine wpAny_execs_cons (wpAny_Return_some (Constant_str ?_))
    exact ⟨⟨_, rfl, rfl⟩, fin _ hfl6 hsm₆ rfl rfl⟩
  · refine wpAny_handleBy_cons (codeAny_handlers_test (glob_name (f := f) keep5 hm44 ?_)) (by intro q; cases q)
    refine excMatches_not (keep5 _ _ h56) (keep5 _ _ h44) hoe hoec (by decide +kernel) (by decide +kernel) ?_
    refine wpAny_handleBy_cons (codeAny_handlers_test (glob_name (f := f) keep5 hm56 ?_)) (by intro q; cases q)
    refine wpAny_excMatches_sub_self (keep5 _ _ h56) hoe hoec (by decide +kernel) (codeAny_handlers_suite ?_)
    refine lands_againW hfl5 fun h₆ hfl6 hsm₆ => ?_
    refine wpAny_execs_cons (wpAny_Return_some (Constant_str ?_))
    exact ⟨⟨_, rfl, rfl⟩, fin _ hfl6 hsm₆ rfl rfl⟩

section
variable {n : Nat} {ns : List (Str × NameKind)} {C : CC} {f : Fx n ns} {m : LM} {σ : Store}
noncomputable def T0 {α : Type} (C : CC) (f : Fx n ns) (m : LM) (σ : Store) (t : Sem α) (Q : α → LM → Store → Prop) : Prop :=
  AOk n f.A → FrOk f [] → ∀ s, St C (fun _ => False) f m σ s → wpAny (model pw C.w) f.A t (fun v s' => ∃ m' σ', St C (fun _ => False) f m' σ' s' ∧ Q v m' σ') (fun _ _ => False) s
theorem T.to0 {α : Type} {t : Sem α} {Q : α → LM → Store → Prop} (h : T C f m σ t Q) : T0 C f m σ t Q := fun ha _ s hs =>
  wpAny_mono (h ha _ s hs) (fun _ _ ⟨m', σ', a, _, c⟩ => ⟨m', σ', a, c⟩) fun _ _ x => x
theorem T0.run {α : Type} {t : Sem α} {Q : α → LM → Store → Prop} {R : α → Shared → Prop} {s : Shared} (h : T0 C f m σ t Q) (ha : AOk n f.A) (fo : FrOk f []) (hs : St C (fun _ => False) f m σ s)
    (k : ∀ a m' σ' s', St C (fun _ => False) f m' σ' s' → Q a m' σ' → R a s') : wpAny (model pw C.w) f.A t R (fun _ _ => False) s :=
  wpAny_mono (h ha fo s hs) (fun _ _ ⟨m', σ', a, c⟩ => k _ m' σ' _ a c) fun _ _ x => x
noncomputable abbrev T0X (C : CC) (f : Fx n ns) (m : LM) (σ : Store) (t : Sem Flow) (Q : Flow → LM → Store → Prop) : Prop := T0 C f m σ t (fun fl => Q (erF fl))
noncomputable abbrev T0E (C : CC) (f : Fx n ns) (m : LM) (σ : Store) (e : Expr) (Q : Value → LM → Store → Prop) : Prop := T0 C f m σ (eval e f.env) (fun v => Q (er v))
noncomputable abbrev T0B (C : CC) (f : Fx n ns) (m : LM) (σ : Store) (e : Expr) (Q : Bool → LM → Store → Prop) : Prop := T0 C f m σ (isTrue e f.env (eval e f.env)) Q
noncomputable def Seq0 (C : CC) (f : Fx n ns) (rest : List Stmt) (Q : Flow → LM → Store → Prop) : Flow → LM → Store → Prop := fun fl m σ => match fl with
  | .next => T0X C f m σ (execs rest f.env) Q
  | fl => Q fl m σ
theorem Seq0_next {rest : List Stmt} {Q : Flow → LM → Store → Prop} (h : T0X C f m σ (execs rest f.env) Q) : Seq0 C f rest Q .next m σ := h
theorem T0X_cons {st : Stmt} {rest : List Stmt} {Q : Flow → LM → Store → Prop} (h : T0X C f m σ (exec st f.env) (Seq0 C f rest Q)) : T0X C f m σ (execs (st :: rest) f.env) Q := fun ha fo _ hs =>
  wpAny_execs_cons (h.run ha fo hs fun fl m' σ' s' h1 q1 => by
    cases fl with
    | next => exact q1 ha fo s' h1
    | brk => exact ⟨m', σ', h1, q1⟩
    | cont => exact ⟨m', σ', h1, q1⟩
    | ret v => exact ⟨m', σ', h1, q1⟩)
theorem T0X_T {st : Stmt} {rest : List Stmt} {Q : Flow → LM → Store → Prop} (h : TX C f m σ (exec st f.env) (Seq0 C f rest Q)) : T0X C f m σ (execs (st :: rest) f.env) Q := T0X_cons (T.to0 h)
theorem T0X_nil {Q : Flow → LM → Store → Prop} (h : Q .next m σ) : T0X C f m σ (execs [] f.env) Q := fun _ _ _ hs => wpAny_execs_nil ⟨m, σ, hs, h⟩
theorem T0X_If {test : Expr} {body orelse : List Stmt} {pos : Pos} {Q : Flow → LM → Store → Prop} (h : T0B C f m σ test (fun b m' σ' => if b = true then T0X C f m' σ' (execs body f.env) Q else T0X C f m' σ' (execs orelse f.env) Q)) :
    T0X C f m σ (exec (.If test body orelse pos) f.env) Q := fun ha fo _ hs => wpAny_If (h.run ha fo hs fun b m' σ' s' h1 q1 => by
      cases b
      · exact q1 ha fo s' h1
      · exact q1 ha fo s' h1)
theorem T0X_Return {e : Expr} {pos : Pos} {Q : Flow → LM → Store → Prop} (h : T0E C f m σ e (fun v => Q (.ret v))) : T0X C f m σ (exec (.Return (some e) pos) f.env) Q :=
  fun ha fo s hs => wpAny_Return_some (h ha fo s hs)
theorem T0E_Compare {l r : Expr} {op : CmpOp} {pos : Pos} {Q : Value → LM → Store → Prop} (h : T0E C f m σ l (fun a m₁ σ₁ => TE C f m₁ σ₁ r (fun b m₂ σ₂ => Op2 C f m₂ σ₂ (compareOp op) a b Q)))
    (hm : behindInMarks op r = false := by with_unfolding_all rfl) : T0E C f m σ (.Compare l [op] [r] pos) Q := fun ha fo _ hs =>
  wpAny_Compare1 (h.run ha fo hs fun _ _ _ _ h1 q1 => q1.run ha h1 fun _ _ _ _ h2 k2 q2 => T.to0 (q2 _ _ rfl rfl) ha fo _ h2) hm
theorem T0B_Compare {l r : Expr} {op : CmpOp} {pos : Pos} {Q : Bool → LM → Store → Prop} (h : T0E C f m σ l (fun a m₁ σ₁ => TE C f m₁ σ₁ r (fun b m₂ σ₂ => Op2 C f m₂ σ₂ (compareOp op) a b (fun v m₃ σ₃ => ∃ b, v = .bool b ∧ Q b m₃ σ₃))))
    (hm : behindInMarks op r = false := by with_unfolding_all rfl) : T0B C f m σ (.Compare l [op] [r] pos) Q := fun ha fo _ hs =>
  wpAny_isTrue_Compare1 (h.run ha fo hs fun _ _ _ _ h1 q1 => q1.run ha h1 fun _ _ _ _ h2 k2 q2 => (q2 _ _ rfl rfl).run ha h2 fun v m₃ σ₃ s₃ h3 k3 q3 => by
    obtain ⟨b, e, q3⟩ := q3
    rw [er_bool e]
    exact wpAny_truthy_bool ⟨m₃, σ₃, h3, q3⟩) hm
theorem T0E_BoolAnd {e₁ e₂ : Expr} {rest : List Expr} {pos : Pos} {Q : Value → LM → Store → Prop} (h : T0E C f m σ e₁ (fun v m₁ σ₁ => ∃ b, v = .bool b ∧ if b = true then T0E C f m₁ σ₁ (.BoolOp .And (e₂ :: rest) pos) Q else Q (.bool false) m₁ σ₁)) :
    T0E C f m σ (.BoolOp .And (e₁ :: e₂ :: rest) pos) Q := fun ha fo _ hs => BoolOp_and (h.run ha fo hs fun v m₁ σ₁ s₁ h1 q1 => by
      obtain ⟨b, e, q1⟩ := q1
      rw [er_bool e]
      cases b
      · exact wpAny_truthy_bool ⟨m₁, σ₁, h1, q1⟩
      · exact wpAny_truthy_bool (q1 ha fo s₁ h1))
theorem T0_retag {α : Type} {t : Sem α} {a : Addr} {r r' : Role} {vs : List Value} {Q : α → LM → Store → Prop} (hl : σ a = some (.list r vs)) (h : T0 C f m (upd σ a (.list r' vs)) t Q) : T0 C f m σ t Q := fun ha fo s hs => h ha fo s (hs.retag hl)

theorem T0E_refused {g a cl : Addr} {e1 e2 e3 : Expr} {np pos : Pos} {Q : Value → LM → Store → Prop} (hn : 6 ≤ n) (hcl : cl = 44 ∨ cl = 56)
    (hx : TE C f m σ (.Name (Str.ofString "_law_is_refused") np) (fun v m' σ' => v = .ref 560 ∧ m' = m ∧ σ' = σ)) (hk : Callable (KK C.w.params) (.ref 560))
    (h : TArgs C f m σ pos [e1, e2, e3] (fun vs m₂ σ₂ => ∃ w, vs = [.ref g, .ref a, S w] ∧ SpecR C 5 (.ref 489) [.ref g, .ref a, S w] σ₂ (.ref cl) ∧ Q (S (ansOf cl)) m₂ σ₂))
    (he : eval (.Call (.Name (Str.ofString "_law_is_refused") np) [e1, e2, e3] [] pos) f.env = (do callWith pos (← eval (.Name (Str.ofString "_law_is_refused") np) f.env) [] (backTo pos (starEach [e1, e2, e3] f.env)) (backToKw pos (keywordEach [] f.env))) := by rfl)
    (hp : ((backTo pos (starEach [e1, e2, e3] f.env)).any (·.1)) = false := by rfl) :
    T0E C f m σ (.Call (.Name (Str.ofString "_law_is_refused") np) [e1, e2, e3] [] pos) Q := fun ha fo s hs => by
  refine Call_ (hx.run ha hs fun fv m' σ' s' h1 _ q1 => ?_) he
  obtain ⟨ev, rfl, rfl⟩ := q1
  rw [er_ref ev]
  refine callWith_any (C := C) hk hp (h.run ha h1 fun ws m₂ σ₂ s₂ h2 _ q2 => ⟨C.X.keeps h2.keep, ?_⟩)
  obtain ⟨w, ews, hR, hQ⟩ := q2
  have F1 := h2.ownFrame fo trivial
  refine wpAny_call (codeAny_mono (refused_spec hcl hR (ha.le hn) fo.frames (ws := ws) ews ?_ F1) fun r s₃ ⟨⟨v, er', ev'⟩, B⟩ => ?_)
  · refine ⟨h2.keep, fun a' o z => ⟨(h2.sto a' o z).1, (h2.sto a' o z).2.1, fun ⟨env, he', hf⟩ => ?_⟩, fun b ⟨env, he', hf⟩ => ?_, h2.gens, h2.os⟩
    · rw [List.mem_singleton.mp he', fo.frame] at hf; cases hf
      exact (h2.sto _ o z).2.2.2 h2.loWn
    · rw [List.mem_singleton.mp he', fo.frame] at hf; cases hf
      exact (h2.own _ h2.loWn).2
  · subst er'
    have hc : ∀ x c, f.env.cells.lookup x = some c → False := fun x c q => by
      rcases h2.cellsIn x c q with z | z
      · rw [fo.own] at z
        have z := List.mem_singleton.mp z
        subst z
        obtain ⟨v, o, h3, h4⟩ := h2.loc.cellEx x _ q
        obtain ⟨mm, ⟨o', es, ep, ho, hd', _⟩, _⟩ := h2.loc.ns
        rw [h3] at ho; cases ho
        rw [h4] at hd'; cases hd'
      · exact z
    refine ⟨m₂, σ₂, ⟨B.keep, h2.above, ⟨?_, fun x v hv hk' => ?_, fun x c hx' => ?_⟩, fun a' o z => ⟨B.sto a' o z, (h2.sto a' o z).2⟩, fun b hb => hb.elim, B.gens, B.os, fun b hb => ?_, h2.loWn, h2.cellsIn⟩, by show Q (er v) m₂ σ₂; rw [ev']; exact hQ⟩
    · obtain ⟨mm, ⟨o, es, ep, ho, hd', r⟩, hm⟩ := h2.loc.ns
      obtain ⟨sl, hs'⟩ := B.slots f.env (.head _) f.env.locals o fo.frame ho (fun vs q => by rw [hd'] at q; cases q)
      exact ⟨mm, ⟨_, es, ep, hs', hd', r⟩, hm⟩
    · obtain ⟨c, u, q1, _⟩ := h2.loc.cells x v hv hk'
      exact (hc x c q1).elim
    · exact (hc x c hx').elim
    · have hb' := hb
      rw [fo.own] at hb'
      rw [List.mem_singleton.mp hb']
      obtain ⟨mm, ⟨o, es, ep, ho, hd', r⟩, hm⟩ := h2.loc.ns
      obtain ⟨sl, hs'⟩ := B.slots f.env (.head _) f.env.locals o fo.frame ho (fun vs q => by rw [hd'] at q; cases q)
      exact ⟨(h2.own _ h2.loWn).1, _, hs'⟩
end

noncomputable def homeD : List (PyData × PyData) := [(.str (Str.ofString "left"), .str (Str.ofString "right")), (.str (Str.ofString "right"), .str (Str.ofString "left"))]
noncomputable def homeW (w : Str) : Str := strOf ((PySem.Spec.lookup (.str w) homeD).getD (.str w))
theorem home_is {w : Str} (hw : w ∈ words8) : (PySem.Spec.lookup (.str w) homeD).getD (.str w) = .str (homeW w) := by
  simp only [words8, List.mem_cons, List.not_mem_nil, or_false] at hw
  rcases hw with rfl | rfl | rfl | rfl | rfl | rfl | rfl | rfl <;> rfl
theorem home8 {w : Str} (hw : w ∈ words8) : homeW w ∈ words8 := by
  simp only [words8, List.mem_cons, List.not_mem_nil, or_false] at hw
  rcases hw with rfl | rfl | rfl | rfl | rfl | rfl | rfl | rfl <;> decide +kernel
theorem home_swp {w : Str} (hw : w ∈ words8) : inW swpL (homeW w) = inW swpL w := by
  simp only [words8, List.mem_cons, List.not_mem_nil, or_false] at hw
  rcases hw with rfl | rfl | rfl | rfl | rfl | rfl | rfl | rfl <;> decide +kernel
theorem turn_home_w {w : Str} (hw : w ∈ words8) (F : Frm) : (turnF (turnF F w) (homeW w)).w = F.w ∧ (turnF (turnF F w) (homeW w)).h = F.h := by
  unfold turnF
  rw [home_swp hw]
  cases inW swpL w <;> exact ⟨rfl, rfl⟩
theorem pos_fmod {x n : Int} (hn : 0 < n) : decide (0 < x.fmod n) = !decide (x.fmod n = 0) := by
  obtain ⟨h1, _⟩ := fmod_bd x hn
  by_cases h : x.fmod n = 0
  · simp [h]
  · have : 0 < x.fmod n := by omega
    simp [h, this]
theorem rest_whole {w : Str} (hw : w ∈ words8) {F : Frm} (ok : FrmOk F) : restW F w = !wholeW F w := by
  have h1 := ok.maxA
  have h2 := ok.maxD
  have p1 := pos_fmod (x := F.w) (n := 2 * maxA F) (by omega)
  have p2 := pos_fmod (x := F.h) (n := 2 * maxD F) (by omega)
  have e1 : maxA F * 2 = 2 * maxA F := Int.mul_comm _ _
  have e2 : maxD F * 2 = 2 * maxD F := Int.mul_comm _ _
  unfold restW wholeW
  rw [p1, p2, e1, e2]
  generalize decide (F.w.fmod (2 * maxA F) = 0) = a
  generalize decide (F.h.fmod (2 * maxD F) = 0) = b
  simp only [words8, List.mem_cons, List.not_mem_nil, or_false] at hw
  rcases hw with rfl | rfl | rfl | rfl | rfl | rfl | rfl | rfl <;> revert a b <;> decide +kernel

noncomputable def bad4 : List Str := [Str.ofString "", Str.ofString "turn", Str.ofString "Left", Str.ofString "rigth"]
theorem bad_ok {w : Str} (hw : w ∈ bad4) : okData (.str w) ∧ w.length ≤ 100 ∧ inW wrdL w = false := by
  simp only [bad4, List.mem_cons, List.not_mem_nil, or_false] at hw
  rcases hw with rfl | rfl | rfl | rfl <;> exact ⟨⟨by decide +kernel, by decide +kernel⟩, by decide +kernel, by decide +kernel⟩
theorem okStr {w : Str} (h : PyData.strOk w = true) : okData (.str w) := ⟨by rw [PyData.canLay0]; exact h, by simp [PyData.depth]⟩
theorem FrmAt.go {σ σ' : Store} {a : Addr} {F : Frm} (h : FrmAt σ a F) (k : ExtS σ σ') : FrmAt σ' a F := h.extS k
theorem words_of {v : Value} {l : List Str} (h : v ∈ l.map S) : ∃ w, v = S w ∧ w ∈ l := by
  obtain ⟨w, h1, h2⟩ := List.mem_map.mp h
  exact ⟨w, h2.symm, h1⟩

theorem TE.to0 {n : Nat} {ns : List (Str × NameKind)} {C : CC} {f : Fx n ns} {m : LM} {σ : Store} {e : Expr} {Q : Value → LM → Store → Prop} (h : TE C f m σ e Q) : T0E C f m σ e Q := T.to0 h
noncomputable def retTrue : Flow → LM → Store → Prop := fun fl _ _ => fl = .ret (.bool true)

set_option maxHeartbeats 4000000 in
theorem law_spec {C : CC} {l : Addr} (hl : ScriptAt C l) {A : Around} (hA : AOk 8 A) (hfr : A.frames = some []) {s : Shared} (hOw : Owns C (fun _ => False) (fun _ => none) s) {ws : List Value} (hws : ws.map er = [.ref l]) :
    codeAny (model pw C.w) A (.call (.ref 567) ⟨ws, []⟩) (fun r s' => r = .ok (.ret (.bool true)) ∧ ∃ σ', Owns C (fun _ => False) σ' s') s := by
  refine' raw_def (body := _ :: _) (args := [.ref l]) (DefOk.of' (names := [_]) (ns := [_, _, _, _, _, _, _, _, _, _, _, _, _, _, _, _, _, _, _, _]) ?h1 ?h2 ?h3 ?h17 ?h18 ?h4 ?h5 ?h6 ?h7 ?h8 ?h9 ?h10 ?h11 ?h12 ?h14 ?h15) hA hws hOw ?_
  (case h1 => k_is); (case h2 => exact rfl); (case h3 => exact rfl); (case h17 => exact rfl); (case h18 => exact rfl); (case h4 => kernel_rfl)
  (case h5 => exact binds1 rfl (fun _ => rfl))
  (case h6 => decide +kernel); (case h7 => decide +kernel); (case h8 => decide +kernel)
  (case h9 => exact rfl); (case h10 => exact rfl); (case h11 => exact rfl); (case h12 => exact rfl); (case h14 => exact rfl); (case h15 => exact rfl)
  dsimp only [List.map, List.zip, List.zipWith]
  intro f s₀ hA' hfrm hown hnew hk hst hAok
  have fo : FrOk f [] := ⟨by rw [hA']; exact Around.frames_deeper hfr, hfrm, hown⟩
  refine wpAny_mono (T0.run (C := C) (f := f) (Q := fun fl => retTrue (erF fl)) (R := fun fl s' => (fun r s' => r = Except.ok (Flow.ret (.bool true)) ∧ ∃ σ', Owns C (fun _ => False) σ' s') (Except.ok (Flow.ret (retOf fl))) s') ?_ hAok fo hst fun fl m' σ' s' h1 q1 => ?_) (fun _ _ x => x) fun _ _ x => x.elim
  rotate_left
  · refine ⟨?_, σ', h1.owns⟩
    cases fl with
    | ret v =>
      have q1 : Flow.ret (er v) = .ret (.bool true) := q1
      have e : er v = .bool true := by injection q1
      rw [er_bool e]; rfl
    | next => cases q1
    | brk => cases q1
    | cont => cases q1
  clear hst hOw hk hnew
  change T0X C f _ _ _ retTrue
  refine T0X_T (TX_Assign ?_)
  repeat walk_at "t"
  refine CallV_spec ((pool_spec hl).mono fun v σ₁ hq_ => ?_)
  obtain ⟨a, z0, z1, e, hsa, b1, b2, hn, hE1⟩ := hq_
  subst e
  refine Seq0_next (T0_retag (r' := .src) hsa ?_)
  have hs : SrcAt (upd σ₁ a (.list .src [I z0, I z1])) a := ⟨z0, z1, upd_self .., b1, b2⟩
  generalize upd σ₁ a (.list .src [I z0, I z1]) = σ₂ at *
  clear hsa hE1 hn
  refine T0X_T (TX_Assign ?_)
  repeat walk_at "t"
  refine CallV_spec ((law_frame_spec hs).mono fun v σ₃ hq_ => ?_)
  obtain ⟨b, F, e, hF, ok, hs3, _⟩ := hq_
  subst e
  refine Seq0_next (T0X_T (TX_Assign ?_))
  repeat walk_at "t"
  refine CallV_spec ((law_filled_spec hs3 hF ok).mono fun v σ₄ hq_ => ?_)
  obtain ⟨g, ct, e, hg, hbd, hs4, hF4⟩ := hq_
  subst e
  clear hF hs3 hs
  refine Seq0_next (T0X_T (TX_Assign ?_))
  repeat walk_at "t"
  refine CallV_spec ((law_shown_spec hF4 ok hg).mono fun v σ₅ hq_ => ?_)
  obtain ⟨hah, hE5⟩ := hq_
  have hF5 := hF4.ext hE5
  have hg5 := hg.ext hE5
  have hs5 := hs4.ext hE5
  clear hF4 hg hs4 hE5
  refine Seq0_next (T0X_T (TX_Assign ?_))
  repeat walk_at "t"
  refine ⟨by simp, fun L hL => ?_⟩
  repeat walk_at "t"
  refine CallV_spec ((one_spec (hs5.ext (Ext.new hL)) (upd_self ..) (by simp) (by simp)).mono fun tv σ₆ hq_ => ?_)
  obtain ⟨hv, hs6, hE6⟩ := hq_
  obtain ⟨w, rfl, hw⟩ := words_of (l := words8) hv
  have hE56 := (Ext.new (o := .list .plain (words8.map S)) hL).toS.trans hE6
  have hF6 := hF5.extS hE56
  have hg6 := hg5.extS hE56
  have hah6 := hah.extS hE56
  clear hF5 hg5 hah hs5 hE6 hE56 hv
  have okw := ok8 hw
  refine Seq0_next (T0X_cons (T0X_If (T0B_Compare (T0E_refused (g := g) (a := b) (cl := 56) (by decide) (.inr rfl) (TE_globR (by k_is) ⟨rfl, rfl, rfl⟩) (.fn (by k_is)) ?_))))
  repeat walk_at "t"
  refine ⟨by simp, fun L2 hL2 => ?_⟩
  repeat walk_at "t"
  refine CallV_spec ((one_spec (hs6.ext (Ext.new hL2)) (upd_self ..) (by simp) (by simp)).mono fun tv σ₇ hq_ => ?_)
  obtain ⟨hv, _, hE7⟩ := hq_
  obtain ⟨w', rfl, hw'⟩ := words_of (l := bad4) hv
  obtain ⟨o1, o2, o3⟩ := bad_ok hw'
  have hE67 := (Ext.new (o := .list .plain (bad4.map S)) hL2).toS.trans hE7
  have hF7 := hF6.extS hE67
  have hg7 := hg6.extS hE67
  have hah7 := hah6.extS hE67
  clear hF6 hg6 hah6 hs6 hE7 hE67 hv
  repeat walk_at "t"
  refine ⟨_, rfl, grid_bad_word o1 o2 o3, ?_⟩
  repeat walk_at "t"
  refine Op2_neSame (.str _) (.str _) (okStr (by decide +kernel)) ⟨_, rfl, iteF (by decide) (T0X_nil (Seq0_next ?_))⟩
  have hrw := rest_whole hw ok
  refine T0X_cons (T0X_If (T.to0 ?_))
  repeat walk_at "t"
  refine CallV_spec ((law_rest_spec hw hF7 ok).mono fun v σ₈ hq_ => ?_)
  obtain ⟨e, hE8⟩ := hq_
  subst e
  have hF8 := hF7.ext hE8
  have hg8 := hg7.ext hE8
  have hah8 := hah7.ext hE8
  clear hF7 hg7 hah7 hE8
  refine ⟨_, rfl, iteB (fun hr => ?_) (fun hr => ?_)⟩
  · have hwh : wholeW F w = false := by rw [hrw] at hr; simpa using hr
    refine T0X_cons (T0X_Return (T0E_BoolAnd (T0E_Compare (T0E_refused (g := g) (a := b) (cl := 44) (by decide) (.inl rfl) (TE_globR (by k_is) ⟨rfl, rfl, rfl⟩) (.fn (by k_is)) ?_))))
    repeat walk_at "t"
    refine ⟨_, rfl, grid_rest okw (wrd8 hw) hwh hF8 ok, ?_⟩
    repeat walk_at "t"
    refine iteT (by decide +kernel) (TE.to0 ?_)
    repeat walk_at "t"
    refine CallV_spec ((law_shown_spec hF8 ok hg8).mono fun v σ₉ hq_ => ?_)
    obtain ⟨hah9, hE9⟩ := hq_
    repeat walk_at "t"
    refine Op2_eqd hah9.rd (hah8.ext hE9).rd (okShown _ _) (okShown _ _) ?_
    rw [PySem.SeqAt.eqv_refl _ (okShown _ _).1]
    exact rfl
  have hwh : wholeW F w = true := by rw [hrw] at hr; simpa using hr
  refine T0X_nil (Seq0_next ?_)
  refine T0X_T (TX_AssignTup2 ?_)
  repeat walk_at "t"
  refine CallV_spec ((turned_grid_spec okw (wrd8 hw) hwh hF8 ok hg8 hbd).mono fun v σ₉ hq_ => ?_)
  obtain ⟨t, b', h, ct', e, ht, hb', hh, hD, hbd', hn, hE9⟩ := hq_
  subst e
  refine ⟨t, _, _, rfl, ht, ?_⟩
  have hgh : g ≠ h := by
    obtain ⟨gx, _, _, q, _⟩ := hg8
    exact ne_new q hn
  have hF9 := hF8.extG hE9
  have hg9 := hg8.extG hE9 hgh
  have hah9 := hah8.extG hE9
  clear hF8 hg8 hah8 hE9 ht hn
  have okt := ok.turn w
  refine Seq0_next (T0X_cons (T0X_If (T.to0 ?_)))
  repeat walk_at "t"
  refine CallV_spec ((moved_right_spec hw hF9 ok hb' hg9 hh hD).mono fun v σ₁₀ hq_ => ?_)
  obtain ⟨e, hE10⟩ := hq_
  subst e
  repeat walk_at "t"
  refine iteF (by decide) ?_
  repeat walk_at "t"
  refine CallV_spec ((law_shown_spec (hF9.ext hE10) ok (hg9.ext hE10)).mono fun v σ₁₁ hq_ => ?_)
  obtain ⟨hah11, hE11⟩ := hq_
  have hE9_11 := hE10.trans hE11
  repeat walk_at "t"
  refine Op2_neSame hah11.rd (hah9.ext hE9_11).rd (okShown _ _) ?_
  repeat walk_at "t"
  refine iteF (by decide) ?_
  repeat walk_at "t"
  refine iteF (by decide) (T0X_nil (Seq0_next ?_))
  have hF11 := hF9.ext hE9_11
  have hb11 := hb'.ext hE9_11
  have hh11 := hh.ext hE9_11
  clear hF9 hb' hg9 hh hE10 hE11 hE9_11 hah9 hah11
  have hw2 := home8 hw
  refine T0X_T ?_
  refine TX_Assign ?a ?b ?c
  case b => exact Stor_local rfl
  case c => rfl
  refine TE_dictGet (D := homeD) ?h1 ?h2 ?h3 ?h4 ?h5 ?h6 ?h7 ?h8
  case h1 => rfl
  case h2 => rfl
  case h3 => decide +kernel
  case h4 => rfl
  case h5 => rfl
  case h6 => intro q; cases q
  case h7 => decide
  repeat walk_at "t"
  refine ⟨w, w, homeW w, rfl, home_is hw, ?_⟩
  refine Seq0_next (T0X_cons (T0X_If (T.to0 ?_)))
  have hrw2 := rest_whole hw2 okt
  repeat walk_at "t"
  refine CallV_spec ((law_rest_spec hw2 hb11 okt).mono fun v σ₁₂ hq_ => ?_)
  obtain ⟨e, hE12⟩ := hq_
  subst e
  have hF12 := hF11.ext hE12
  have hb12 := hb11.ext hE12
  have hh12 := hh11.ext hE12
  clear hF11 hb11 hh11 hE12
  refine ⟨_, rfl, iteB (fun hr => ?_) (fun hr => ?_)⟩
  · have hwh2 : wholeW (turnF F w) (homeW w) = false := by rw [hrw2] at hr; simpa using hr
    refine T0X_cons (T0X_Return (T0E_Compare (T0E_refused (g := h) (a := b') (cl := 44) (by decide) (.inl rfl) (TE_globR (by k_is) ⟨rfl, rfl, rfl⟩) (.fn (by k_is)) ?_)))
    repeat walk_at "t"
    refine ⟨_, rfl, grid_rest (ok8 hw2) (wrd8 hw2) hwh2 hb12 okt, ?_⟩
    repeat walk_at "t"
    exact congrArg (fun b => Flow.ret (.bool b)) (by decide +kernel)
  have hwh2 : wholeW (turnF F w) (homeW w) = true := by rw [hrw2] at hr; simpa using hr
  refine T0X_nil (Seq0_next ?_)
  refine T0X_T (TX_AssignTup2 ?_)
  repeat walk_at "t"
  refine CallV_spec ((turned_grid_spec (ok8 hw2) (wrd8 hw2) hwh2 hb12 okt hh12 hbd').mono fun v σ₁₃ hq_ => ?_)
  obtain ⟨t, b2, h2, ct2, e, ht, hb2, hh2, hD2, _, hn, hE13⟩ := hq_
  subst e
  refine ⟨t, _, _, rfl, ht, ?_⟩
  have hhh : h ≠ h2 := by
    obtain ⟨gx, _, _, q, _⟩ := hh12
    exact ne_new q hn
  have hF13 := hF12.extG hE13
  have hb13 := hb12.extG hE13
  have hh13 := hh12.extG hE13 hhh
  clear hF12 hb12 hh12 hE13 ht hn
  refine Seq0_next (T0X_T (TX_Return ?_))
  repeat walk_at "t"
  refine CallV_spec ((moved_right_spec hw2 hb13 okt hb2 hh13 hh2 hD2).mono fun v σ₁₄ hq_ => ?_)
  obtain ⟨e, hE14⟩ := hq_
  subst e
  have hF14 := hF13.ext hE14
  have hb14 := hb2.ext hE14
  clear hF13 hb13 hh13 hb2 hh2 hD2 hE14
  obtain ⟨dx, L', vs, h1, h2', h3, h4⟩ := hF14
  obtain ⟨ex, M', us, i1, i2, i3, i4⟩ := hb14
  obtain ⟨ew, eh⟩ := turn_home_w hw F
  refine ⟨_, rfl, iteT rfl ?_⟩
  repeat walk_at "t"
  refine TE_AttrV i1 i2 rfl (ao_width C) (by intro _ q; cases q) ?_ (TE_local (by walk_at "lk") ⟨rfl, rfl, rfl⟩)
  refine TArgs_cons (TE_AttrV i1 i2 rfl (ao_height C) (by intro _ q; cases q) ?_ (TE_local (by walk_at "lk") ⟨rfl, rfl, rfl⟩))
  repeat walk_at "t"
  refine ⟨by simp, fun t1 ht1 => ?_⟩
  have hN1 := Ext.new (o := .tup [I (turnF (turnF F w) (homeW w)).w, I (turnF (turnF F w) (homeW w)).h]) ht1
  have hT1 := upd_self σ₁₄ t1 (.tup [I (turnF (turnF F w) (homeW w)).w, I (turnF (turnF F w) (homeW w)).h])
  generalize upd σ₁₄ t1 (.tup [I (turnF (turnF F w) (homeW w)).w, I (turnF (turnF F w) (homeW w)).h]) = σ₁₅ at *
  rw [ew, eh] at hT1
  repeat walk_at "t"
  refine TE_AttrV (hN1 _ _ h1) (hN1 _ _ h2') rfl (ao_width C) (by intro _ q; cases q) ?_ (TE_local (by walk_at "lk") ⟨rfl, rfl, rfl⟩)
  refine TArgs_cons (TE_AttrV (hN1 _ _ h1) (hN1 _ _ h2') rfl (ao_height C) (by intro _ q; cases q) ?_ (TE_local (by walk_at "lk") ⟨rfl, rfl, rfl⟩))
  repeat walk_at "t"
  refine ⟨by simp, fun t2 ht2 => ?_⟩
  refine Op2_eqd (rdPair (p := (F.w, F.h)) (upd_some hT1 (ne_new hT1 ht2))) (rdPair (p := (F.w, F.h)) (upd_self ..)) (okPair _) (okPair _) ?_
  rw [PySem.SeqAt.eqv_refl _ (okPair _).1]
  exact rfl
noncomputable def H1 (P : Params) : Heap := absHeap (finT P) 568 {}
noncomputable def qv : Program := view pw [41]
noncomputable def loose : List Str := ["PressError", "FrameError", "RangeError", "parts", "Component", "Frame", "Grid", "zigzag_places", "ORDER_8", "order", "to_row", "to_block", "WORDS", "SWAPPING", "MIRRORING", "FLIPPING", "check_word", "turned_row", "turned_place", "unit_size", "is_whole", "turned_frame", "turned_component", "turned_grid", "_law_pool", "_law_take", "_law_one", "_law_frame", "_law_filled", "_law_shown", "_law_led", "_law_bent", "_law_rest", "_law_moved_right", "_law_is_refused"].map Str.ofString
theorem run_abs (w : World) (os : OsState) : topRun treeTable pw w 11 (some (.ref 6)) 12000 ⟨boot_heap w.params, Array.mk [], boot_drawn, boot_toks, os⟩ (topStub pw) = some ⟨H1 w.params, Array.mk [], {}, 1327, os⟩ := by
  have h := topRun_of (run_all w os)
  have e : (startS w os).abs = ⟨boot_heap w.params, Array.mk [], boot_drawn, boot_toks, os⟩ := by
    unfold startS SharedT.abs
    rw [boot_abs]
  rw [e] at h
  exact h
theorem opens (N : Nat) (h : Nat.ble 600 N = true) : ∀ w : World, (fencedOpening treeTable pw w N).map (fun s => (s.heap, s.gens, s.drawn, s.toks)) = some (boot_heap w.params, Array.mk [], boot_drawn, boot_toks) :=
  boot_open rfl h (fun _ => rfl)
theorem sizes0 : ∀ w : World, ((boot_heap w.params).isNs mainGlobals && (Array.mk [] : Array GenState).size == 0, (boot_heap w.params).objs.size, (boot_heap w.params).nsMap mainGlobals "__annotations__") = (true, 11, some (.ref 6)) := fun w => by kernel_rfl
theorem look1 : ∀ w : World, (fun os : OsState => (staticsOk (importedModules pw.main.body) (boot_heap w.params) (H1 w.params) && namesBound pw (H1 w.params) && gensDone ⟨H1 w.params, Array.mk [], {}, 1327, os⟩ && laidKept (boot_heap w.params) (H1 w.params))) = fun _ => true := fun w => by kernel_rfl
theorem kk_in (P : Params) : (KK P).In (H1 P) := Frag.in_of (as := kIdx) (by kernel_rfl) (by kernel_rfl)
theorem look2 : ∀ w : World, (fun os : OsState => openSeen qv loose (importedModules pw.main.body) (fun s => recOk [] s) true ⟨H1 w.params, Array.mk [], {}, 1327, os⟩) = fun _ => openGood qv loose := fun w => by kernel_rfl
theorem ints_at : ∀ {vs : List Value} {ns : List Int}, IntsAre vs ns → vs.length = ns.length ∧ ∀ (k : Nat) (u : Value), vs[k]? = some u → ∃ i t, u = .int i t
  | _, _, .nil => ⟨rfl, fun k u h => by simp at h⟩
  | _, _, .cons n t r => ⟨by simp [(ints_at r).1], fun k u h => by
    cases k with
    | zero => simp at h; exact ⟨n, t, h.symm⟩
    | succ k => exact (ints_at r).2 k u (by simpa using h)⟩
theorem trim : ∀ (n : Nat) (h : Heap), h.objs.size = n → ∃ h' : Heap, (∀ b, h'.get? b = h.get? b) ∧ ∀ h'' : Heap, (∀ b o, h'.get? b = some o → h''.get? b = some o) → h'.objs.size ≤ h''.objs.size
  | 0, h, e => ⟨h, fun _ => rfl, fun _ _ => by omega⟩
  | n + 1, h, e => by
    cases hq : h.get? n with
    | some o =>
      refine ⟨h, fun _ => rfl, fun h'' k => ?_⟩
      have : n < h''.objs.size := Heap.lt_size (k _ _ hq)
      omega
    | none =>
      obtain ⟨h', h1, h2⟩ := trim n ⟨h.objs.pop, h.life⟩ (by simp [e])
      refine ⟨h', fun (b : Nat) => (h1 b).trans ?_, h2⟩
      by_cases hb : b < n
      · have : h.objs.pop[b]? = h.objs[b]? := by rw [Array.getElem?_pop]; simp [e, hb]
        unfold Heap.get?
        rw [this]
      · have e1 : h.objs.pop[b]? = none := Array.getElem?_eq_none (by simp only [Array.size_pop]; have : ¬ (b : Nat) < n := hb; omega)
        have e2 : Heap.get? ⟨h.objs.pop, h.life⟩ b = none := by unfold Heap.get?; rw [e1]
        rw [e2]
        by_cases hb' : b = n
        · rw [hb', hq]
        · have e3 : h.objs[b]? = none := Array.getElem?_eq_none (by have : ¬ (b : Nat) < n := hb; have : ¬ (b : Nat) = n := hb'; omega)
          unfold Heap.get?
          rw [e3]
theorem left : LeftO pw qv loose (fun s => recOk [] s) (fun s => s.heap) (fun w => H1 w.params) 30000 :=
  LeftO.of_pieces (H₀ := boot_heap) (H₁ := H1) (gs₀ := Array.mk []) (gs₁ := Array.mk []) (d₀ := boot_drawn) (d₁ := {}) (k₀ := boot_toks) (k₁ := 1327) (m₀ := 11) (ann := some (.ref 6)) (M := 12000)
    (opens 30000 rfl) sizes0 run_abs rfl (fun w => by
      have e1 := look1 w
      have e2 := look2 w
      funext os
      exact Prod.ext (congrFun e1 os) (Prod.ext (congrFun e2 os) rfl))
theorem inK_keeps {P : Params} (h h' : Heap) (x : (KK P).In h) (k : ∀ b o, h.get? b = some o → h'.get? b = some o) : (KK P).In h' := Frag.In.keeps x k
theorem law_call {w : World} {s₀ s₁ : Shared} {mg mb : Str → Option Value} (G : Ground qv loose PySem.Challenge.rw_nz0249_01.row.toRowW.records (fun _ _ => True) w s₀ mg mb s₁.heap) (Y : (KK w.params).In s₁.heap) {fa : Addr}
    (hmg : mg (Str.ofString "law") = some (.ref fa)) (hg : s₁.gens = #[]) {args : List WData} {vals : List Value} {as : List Addr}
    (hpre : PySem.Challenge.rw_nz0249_01.row.toRowW.claim.pre args = true) (hlay : WData.layableAll args = true)
    (hrd : ReadsAllW PySem.Challenge.rw_nz0249_01.row.toRowW.records (classAt s₀.heap) s₁.heap vals args as) (hwl : WellAll w.params s₁.heap vals args) (hlo : ∀ a ∈ as, (a == sysModules) = false) :
    wpAny (model pw w) callerA (PySem.call (.ref fa) vals) (fun v s' => GoodWG PySem.Challenge.rw_nz0249_01.row.toRowW.claim (classAt s₀.heap) (ExcName.means s₀.heap) args s₁ (.ok (.ret v)) s')
      (fun e s' => GoodWG PySem.Challenge.rw_nz0249_01.row.toRowW.claim (classAt s₀.heap) (ExcName.means s₀.heap) args s₁ (.error e) s') s₁ := by
  obtain ⟨h₁, hq, hz⟩ := trim _ s₁.heap rfl
  have hk : ∀ b o, s₁.heap.get? b = some o → h₁.get? b = some o := fun b o e => (hq b).trans e
  have T := G.T.keeps hk
  have Y := inK_keeps _ _ Y hk
  have TL : sysModules < h₁.objs.size := by
    obtain ⟨_, ⟨o, _, _, ho, _⟩, _⟩ := T.nodigits
    exact Nat.lt_trans (by decide) (Heap.lt_size ho)
  have e : mg (Str.ofString "law") = some (.ref 567) := mg_of Y T.g (by k_is)
  obtain rfl : 567 = fa := by rw [hmg] at e; cases e; rfl
  wrow_args hpre hlay hrd hwl hlo
  rename_i hL _ _ _ hI _ hc _
  obtain ⟨hn, hi⟩ := ints_at hI
  have hL' := let ⟨o, a, b⟩ := hL; (⟨o, hk _ _ a, b⟩ : Heap.IsList h₁ _ _)
  let C : CC := ⟨w, h₁, s₁.os, mg, mb, Y, T.g, T.b, T.nolimit, T.builtins, hz, TL⟩
  refine enter_call (codeAny_mono (law_spec (C := C) ⟨_, hL', ?_, fun k u q => hi k u (by simpa using q)⟩ ⟨by decide, by decide, rfl⟩ rfl ⟨fun b o e => (hq b).symm.trans e, fun _ _ e => (nomatch e), fun _ e => e.elim, hg, rfl⟩ rfl) ?_)
  · have : (63 : Int) < 2 ^ 63 := by decide
    rw [List.size_toArray, hn]
    omega
  · rintro r s' ⟨rfl, σ', h1, _, _, h4, h5⟩
    refine ⟨.inl ⟨.bool true, .bool true, [], rfl, raisesW_false (by wrow_none_raised), .bool _, ?_, fun _ => ⟨.nil, fun _ h => nomatch h⟩⟩, .of_keep fun b o e => h1 b o (hk b o e), h5, .of_eq h4⟩
    exact postW_of (by wrow_shape) (by wtm_val) (by w_fin)
theorem said : PySem.Challenge.rw_nz0249_01.wellSaid = true := by
  unfold OpenLaw.wellSaid
  repeat' with_reducible refine look_both ?_ ?_
  unfold OpenRow.wellSaid
  repeat' with_reducible refine look_both ?_ ?_
  unfold OpenRow.partSaid
  repeat' with_reducible refine look_both ?_ ?_
  unfold looksOpen
  repeat' with_reducible refine look_both ?_ ?_
  all_goals decide +kernel
end Mine
set_option maxHeartbeats 4000000 in
theorem PySem.Challenge.cw_nz0249_01_holds : PySem.Challenge.rw_nz0249_01.Holds := by
  refine holds_law Mine.said fun said => ?_
  refine holds_open (q := Mine.qv) (loose := Mine.loose) (Xt := fun s => recOk [] s) (XP := fun _ _ => True) (Yf := fun s => s.heap) (Ya := fun w => Mine.H1 w.params) (YP := fun w h => (Mine.KK w.params).In h) (N := 30000) Mine.left
    (fun w s e => by rw [e]; exact Mine.kk_in _) (fun w h h' x k => Mine.inK_keeps h h' x k) (fun _ _ => trivial) (fun _ _ _ _ _ => trivial) (by rfl) (by rfl) (by rfl) (fun s e => recFacts_of e) (by rfl) (by assumption) (by decide +kernel) ⟨rfl, rfl, rfl, rfl, rfl, by decide +kernel⟩ ?hw ?hc
  case hw => w_witness2
  case hc =>
    intro w s₀ s₁ mg mb G Y fa o pm cd doc dV kV ho hd hcd hD hmg hg args vals as hpre hlay hrd hwl hlo
    exact Mine.law_call G Y hmg hg hpre hlay hrd hwl hlo
