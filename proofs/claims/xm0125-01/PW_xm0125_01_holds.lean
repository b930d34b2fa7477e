import PyProof.Rows.All
import Wide.All
import OpenK.AllK
import Wide.FinOn
import PySem.Challenge.RW_xm0125_01
open PySem PySem.W PyProof.Rows PySem.Calls
set_option Elab.async false
set_option linter.unusedVariables false
set_option maxRecDepth 100000
set_option maxHeartbeats 4000000
namespace Mine

/-- what the walk knows of the run: the program, the world, the written part, the module's names -/
structure Cx where
  prog : Program
  w : World
  K : Frag
  mg : Str → Option Value
  mb : Str → Option Value

structure TopOk (c : Cx) (h : Heap) : Prop where
  K : c.K.In h
  g : h.Ns mainGlobals c.mg
  b : h.Ns builtinsNs c.mb
  nolimit : h.NoLimit
  builtins : ∀ x : Str, x ≠ "__name__" → c.mb x = bootBuiltins x

theorem TopOk.keeps {c : Cx} {h h' : Heap} (T : TopOk c h) (hk : ∀ b o, h.get? b = some o → h'.get? b = some o) : TopOk c h' :=
  ⟨T.K.keeps hk, T.g.keeps hk, T.b.keeps hk, T.nolimit.keeps hk, T.builtins⟩

/-- the frozen part of a heap -/
abbrev Fz := Addr → Option Obj

inductive S where
  | int (i : Int)
  | rat (p q : Int)
  deriving DecidableEq

inductive D where
  | s (x : S)
  | bool (b : Bool)
  | none
  | lst (l : List S)
  | dic (l : List (Int × Int))
  | adr (a : Addr)

abbrev D.i (n : Int) : D := .s (.int n)
abbrev D.r (p q : Int) : D := .s (.rat p q)

def TupO (o : Obj) (items : Array Value) : Prop := o.cls = .type "tuple" ∧ ∃ n, o.data = .seq items n
def LstO (o : Obj) (items : Array Value) : Prop := o.cls = .type "list" ∧ (∃ n, o.data = .seq items n) ∧ o.dict = none ∧ o.slots = #[]

def RepS (g : Fz) (v : Value) : S → Prop
  | .int i => ∃ t, v = .int i t
  | .rat p q => ∃ a o t u, v = .ref a ∧ g a = some o ∧ TupO o #[.int p t, .int q u]

def EntIs (kv : Int × Value) (x : Int × Int) : Prop := kv.1 = x.1 ∧ ∃ t, kv.2 = .int x.2 t

/-- an object, not frozen itself, that holds d; its items are frozen -/
def RepO (c : Cx) (g : Fz) (o : Obj) : D → Prop
  | .lst l => ∃ vs : List Value, LstO o vs.toArray ∧ Paired (RepS g) vs l
  | .dic l => ∃ kvs, o.IsDictOf (intKind c.prog c.w) kvs ∧ Paired EntIs kvs l
  | _ => False

def Rep (c : Cx) (g : Fz) (v : Value) : D → Prop
  | .s x => RepS g v x
  | .bool b => v = .bool b
  | .none => v = .none
  | .adr a => v = .ref a
  | .lst l => ∃ a o, v = .ref a ∧ g a = some o ∧ RepO c g o (.lst l)
  | .dic l => ∃ a o, v = .ref a ∧ g a = some o ∧ RepO c g o (.dic l) ∧ (a == sysModules) = false

theorem RepS.mono {g g' : Fz} (h : ∀ a o, g a = some o → g' a = some o) {v : Value} {x : S} (r : RepS g v x) : RepS g' v x := by
  cases x with
  | int i => exact r
  | rat p q => obtain ⟨a, o, t, u, e, ho, k⟩ := r; exact ⟨a, o, t, u, e, h _ _ ho, k⟩
theorem RepSs.mono {g g' : Fz} (h : ∀ a o, g a = some o → g' a = some o) {vs : List Value} {l : List S} (r : Paired (RepS g) vs l) : Paired (RepS g') vs l :=
  r.mono fun _ _ x => x.mono h
theorem RepO.mono {c : Cx} {g g' : Fz} (h : ∀ a o, g a = some o → g' a = some o) {o : Obj} {d : D} (r : RepO c g o d) : RepO c g' o d := by
  cases d with
  | lst l => obtain ⟨vs, a, b⟩ := r; exact ⟨vs, a, RepSs.mono h b⟩
  | dic l => exact r
  | _ => exact r.elim
theorem Rep.mono {c : Cx} {g g' : Fz} (h : ∀ a o, g a = some o → g' a = some o) {v : Value} {d : D} (r : Rep c g v d) : Rep c g' v d := by
  cases d with
  | s x => exact RepS.mono h r
  | bool b => exact r
  | none => exact r
  | lst l => obtain ⟨a, o, e, ho, k⟩ := r; exact ⟨a, o, e, h _ _ ho, k.mono h⟩
  | dic l => obtain ⟨a, o, e, ho, k, ne⟩ := r; exact ⟨a, o, e, h _ _ ho, k.mono h, ne⟩
  | adr a => exact r

/-- a step that only adds -/
structure Ext (s : Shared) (g : Fz) (s' : Shared) (g' : Fz) : Prop where
  keep : ∀ b o, s.heap.get? b = some o → s'.heap.get? b = some o
  gg : ∀ a o, g a = some o → g' a = some o
  gs : ∀ a o, g' a = some o → s'.heap.get? a = some o
  gf : ∀ a o, g' a = some o → g a = some o ∨ s.heap.get? a = none
  sh : s'.gens = s.gens ∧ s'.drawn = s.drawn ∧ s'.os = s.os

theorem Ext.refl {s : Shared} {g : Fz} (gs : ∀ a o, g a = some o → s.heap.get? a = some o) : Ext s g s g := ⟨fun _ _ e => e, fun _ _ e => e, gs, fun _ _ e => .inl e, rfl, rfl, rfl⟩
theorem Ext.trans {s s' s'' : Shared} {g g' g'' : Fz} (x : Ext s g s' g') (y : Ext s' g' s'' g'') : Ext s g s'' g'' where
  keep := fun b o e => y.keep b o (x.keep b o e)
  gg := fun a o e => y.gg a o (x.gg a o e)
  gs := y.gs
  gf := fun a o e => by
    rcases y.gf a o e with h | h
    · exact x.gf a o h
    · refine .inr ?_
      cases q : s.heap.get? a with
      | none => rfl
      | some o' => rw [x.keep a o' q] at h; cases h
  sh := ⟨y.sh.1.trans x.sh.1, y.sh.2.1.trans x.sh.2.1, y.sh.2.2.trans x.sh.2.2⟩
theorem Ext.toks {s s' : Shared} {g g' : Fz} (x : Ext s g s' g') (t : Nat) : Ext s g { s' with toks := t } g' := ⟨x.keep, x.gg, x.gs, x.gf, x.sh⟩
theorem Ext.heap {s : Shared} {g : Fz} (gs : ∀ a o, g a = some o → s.heap.get? a = some o) {h' : Heap} {t : Nat} (k : ∀ b o, s.heap.get? b = some o → h'.get? b = some o) :
    Ext s g { s with heap := h', toks := t } g := ⟨k, fun _ _ e => e, fun a o e => k a o (gs a o e), fun _ _ e => .inl e, rfl, rfl, rfl⟩

def addz (g : Fz) (a : Addr) (o : Obj) : Fz := fun b => if b = a then some o else g b
theorem addz_self {g : Fz} {a : Addr} {o : Obj} : addz g a o a = some o := by simp [addz]
theorem addz_of {g : Fz} {a b : Addr} {o o' : Obj} (hn : g a = none) (e : g b = some o') : addz g a o b = some o' := by
  unfold addz
  split
  · rename_i q; rw [q, hn] at e; cases e
  · exact e
/-- the step has made one new object: freeze it -/
theorem Ext.freeze {s s' : Shared} {g g' : Fz} {a : Addr} {o : Obj} (x : Ext s g s' g') (ho : s'.heap.get? a = some o) (hn : g' a = none) (hf : s.heap.get? a = none) :
    Ext s g s' (addz g' a o) where
  keep := x.keep
  gg := fun b o' e => addz_of hn (x.gg b o' e)
  gs := fun b o' e => by
    unfold addz at e
    split at e
    · rename_i q; subst q; cases e; exact ho
    · exact x.gs b o' e
  gf := fun b o' e => by
    unfold addz at e
    split at e
    · rename_i q; subst q; exact .inr hf
    · exact x.gf b o' e
  sh := x.sh

/-- room for k more frames -/
structure Room (A : Around) (k : Nat) : Prop where
  depth : A.depth + k < recursionLimit
  units : A.units + 16 * k + 64 < cLine
  hnd : A.handled = none

/-- the two constants of the module are frozen -/
def BaseZ (c : Cx) (g : Fz) : Prop := ∀ a o, (a = 49 ∨ a = 50) → c.K.lookup a = some o → g a = some o

/-- a frame -/
structure Fm where
  c : Cx
  k : Nat
  env : Env
  A : Around
  h₀ : Heap
  g₀ : Fz
  s₀ : Shared

structure FmOk (F : Fm) : Prop where
  kind : F.env.scope.kind = .function
  glob : F.env.globals = mainGlobals
  blt : F.env.builtins = builtinsNs
  fresh : F.h₀.get? F.env.locals = none
  top : TopOk F.c F.h₀
  room : Room F.A F.k
  base : BaseZ F.c F.g₀

abbrev Gam := List (Str × D)
abbrev Mu := Option (Str × Addr × D)

structure Base (F : Fm) (g : Fz) (s : Shared) : Prop where
  keep : ∀ b o, F.h₀.get? b = some o → s.heap.get? b = some o
  gg : ∀ a o, F.g₀ a = some o → g a = some o
  gs : ∀ a o, g a = some o → s.heap.get? a = some o
  gf : ∀ a o, g a = some o → F.g₀ a = some o ∨ F.h₀.get? a = none
  sh : s.gens = F.s₀.gens ∧ s.drawn = F.s₀.drawn ∧ s.os = F.s₀.os

structure MuIs (F : Fm) (g : Fz) (s : Shared) (m : Str → Option Value) (x : Str) (a : Addr) (d : D) : Prop where
  loc : F.env.kindOf x = some .local
  var : m x = some (.ref a)
  off : g a = none
  apart : a ≠ F.env.locals
  fresh : F.h₀.get? a = none
  obj : ∃ o, s.heap.get? a = some o ∧ RepO F.c g o d
  mods : (a == sysModules) = false

structure Loc (F : Fm) (Γ : Gam) (μ : Mu) (g : Fz) (s : Shared) (m : Str → Option Value) : Prop where
  ns : s.heap.Ns F.env.locals m
  gL : g F.env.locals = none
  loc : ∀ x d, Γ.lookup x = some d → (F.env.kindOf x = some .local ∧ ∃ v, m x = some v ∧ Rep F.c g v d) ∨
    (F.env.kindOf x = some .cell ∧ ∃ ca o v, F.env.cells.lookup x = some ca ∧ g ca = some o ∧ o.data = .cell (some v) ∧ Rep F.c g v d)
  mu : ∀ x a d, μ = some (x, a, d) → MuIs F g s m x a d

structure St (F : Fm) (Γ : Gam) (μ : Mu) (g : Fz) (s : Shared) : Prop where
  base : Base F g s
  ok : FmOk F
  loc : ∃ m, Loc F Γ μ g s m

theorem Base.ext {F : Fm} {g g' : Fz} {s s' : Shared} (B : Base F g s) (x : Ext s g s' g') : Base F g' s' where
  keep := fun b o e => x.keep b o (B.keep b o e)
  gg := fun a o e => x.gg a o (B.gg a o e)
  gs := x.gs
  gf := fun a o e => by
    rcases x.gf a o e with h | h
    · exact B.gf a o h
    · refine .inr ?_
      cases q : F.h₀.get? a with
      | none => rfl
      | some o' => rw [B.keep a o' q] at h; cases h
  sh := ⟨x.sh.1.trans B.sh.1, x.sh.2.1.trans B.sh.2.1, x.sh.2.2.trans B.sh.2.2⟩

theorem none_of_ext {g g' : Fz} {s s' : Shared} (x : Ext s g s' g') {a : Addr} {o : Obj} (ho : s.heap.get? a = some o) (hn : g a = none) : g' a = none := by
  cases q : g' a with
  | none => rfl
  | some o' =>
    rcases x.gf a o' q with h | h
    · rw [hn] at h; cases h
    · rw [ho] at h; cases h

theorem Loc.ext {F : Fm} {Γ : Gam} {μ : Mu} {g g' : Fz} {s s' : Shared} {m : Str → Option Value} (L : Loc F Γ μ g s m) (x : Ext s g s' g') : Loc F Γ μ g' s' m where
  ns := L.ns.keeps x.keep
  gL := by obtain ⟨o, _, _, ho, _⟩ := L.ns; exact none_of_ext x ho L.gL
  loc := fun y d hy => by
    rcases L.loc y d hy with ⟨k, v, hv, r⟩ | ⟨k, ca, o, v, h1, h2, h3, r⟩
    · exact .inl ⟨k, v, hv, r.mono x.gg⟩
    · exact .inr ⟨k, ca, o, v, h1, x.gg _ _ h2, h3, r.mono x.gg⟩
  mu := fun y a d e => by
    obtain ⟨h1, h2, h3, h4, h5, ⟨o, ho, r⟩, h6⟩ := L.mu y a d e
    exact ⟨h1, h2, none_of_ext x ho h3, h4, h5, ⟨o, x.keep _ _ ho, r.mono x.gg⟩, h6⟩

theorem St.ext {F : Fm} {Γ : Gam} {μ : Mu} {g g' : Fz} {s s' : Shared} (X : St F Γ μ g s) (x : Ext s g s' g') : St F Γ μ g' s' :=
  ⟨X.base.ext x, X.ok, let ⟨m, L⟩ := X.loc; ⟨m, L.ext x⟩⟩
theorem St.refl {F : Fm} {Γ : Gam} {μ : Mu} {g : Fz} {s : Shared} (X : St F Γ μ g s) : Ext s g s g := Ext.refl X.base.gs
theorem St.top {F : Fm} {Γ : Gam} {μ : Mu} {g : Fz} {s : Shared} (X : St F Γ μ g s) : TopOk F.c s.heap := X.ok.top.keeps X.base.keep

abbrev Fm.M (F : Fm) : Model := model F.c.prog F.c.w

/-- the expression comes to d -/
def Ev (F : Fm) (Γ : Gam) (μ : Mu) (e : Expr) (d : D) : Prop :=
  ∀ s g, St F Γ μ g s → wpAny F.M F.A (eval e F.env) (fun v s' => ∃ g', Ext s g s' g' ∧ Rep F.c g' v d) (fun _ _ => False) s
/-- the expression comes to a new object, that nothing else names -/
def Evn (F : Fm) (Γ : Gam) (μ : Mu) (e : Expr) (d : D) : Prop :=
  ∀ s g, St F Γ μ g s → wpAny F.M F.A (eval e F.env) (fun v s' => ∃ g' a o, Ext s g s' g' ∧ v = .ref a ∧ s.heap.get? a = none ∧ g' a = none ∧ s'.heap.get? a = some o ∧ RepO F.c g' o d ∧ (a == sysModules) = false) (fun _ _ => False) s
/-- a test -/
def Et (F : Fm) (Γ : Gam) (μ : Mu) (e : Expr) (b : Bool) : Prop :=
  ∀ s g, St F Γ μ g s → wpAny F.M F.A (isTrue e F.env (eval e F.env)) (fun r s' => r = b ∧ ∃ g', Ext s g s' g') (fun _ _ => False) s
/-- arguments -/
def Evs (F : Fm) (Γ : Gam) (μ : Mu) (pos : Pos) (es : List Expr) (ds : List D) : Prop :=
  ∀ s g, St F Γ μ g s → wpAny F.M F.A (spliced (backTo pos (starEach es F.env))) (fun vs s' => ∃ g', Ext s g s' g' ∧ Paired (Rep F.c g') vs ds) (fun _ _ => False) s

theorem RepO.rep {c : Cx} {g : Fz} {a : Addr} {o : Obj} {d : D} (h : g a = some o) (r : RepO c g o d) (ne : (a == sysModules) = false) : Rep c g (.ref a) d := by
  cases d with
  | lst l => exact ⟨a, o, rfl, h, r⟩
  | dic l => exact ⟨a, o, rfl, h, r, ne⟩
  | _ => exact r.elim
theorem Evn.ev {F : Fm} {Γ : Gam} {μ : Mu} {e : Expr} {d : D} (h : Evn F Γ μ e d) : Ev F Γ μ e d := fun s g X =>
  wpAny_mono (h s g X) (fun v s' ⟨g', a, o, x, hv, hf, hn, ho, r, ne⟩ => ⟨addz g' a o, x.freeze ho hn hf, hv ▸ RepO.rep addz_self (r.mono fun _ _ e => addz_of hn e) ne⟩) fun _ _ f => f

section
variable {F : Fm} {Γ : Gam} {μ : Mu}

theorem ev_int {i : Int} {k : Nat} {pos : Pos} : Ev F Γ μ (.Constant (.int i) k pos) (.i i) := fun _ _ X =>
  wpAny_Constant_int ⟨_, X.refl.toks _, _, rfl⟩
theorem ev_bool {b : Bool} {k : Nat} {pos : Pos} : Ev F Γ μ (.Constant (.bool b) k pos) (.bool b) := fun _ _ X =>
  wpAny_Constant_bool ⟨_, X.refl, rfl⟩
theorem ev_none {k : Nat} {pos : Pos} : Ev F Γ μ (.Constant .none k pos) .none := fun _ _ X =>
  wpAny_Constant_none ⟨_, X.refl, rfl⟩

theorem ev_name {x : Str} {pos : Pos} {d : D} (h : Γ.lookup x = some d) (hd : (x == ("__debug__" : Str)) = false) : Ev F Γ μ (.Name x pos) d := fun s g X => by
  obtain ⟨m, L⟩ := X.loc
  rcases L.loc x d h with ⟨k, v, hv, r⟩ | ⟨k, ca, o, v, h1, h2, h3, r⟩
  · exact wpAny_Name (wpAny_loadName_local X.ok.kind k L.ns hv ⟨g, X.refl, r⟩) hd
  · exact wpAny_Name (wpAny_loadName_cell X.ok.kind k h1 ⟨o, X.base.gs _ _ h2, h3⟩ ⟨g, X.refl, r⟩) hd

/-- a name of the module -/
theorem name_glob {x : Str} {pos : Pos} {v : Value} {s : Shared} {g : Fz} {Q : Value → Shared → Prop} {E : Value → Shared → Prop} (X : St F Γ μ g s)
    (e : nsIn F.c.K mainGlobals x = some (some v)) (hk : F.env.kindOf x = some .globalImplicit) (hd : (x == ("__debug__" : Str)) = false) (h : Q v s) : wpAny F.M F.A (eval (.Name x pos) F.env) Q E s :=
  Name_function_global X.ok.kind hk (loadGlobal_global (by rw [X.ok.glob]; exact X.top.g) (mg_of X.top.K X.top.g e) h) hd
/-- a name of the built-ins -/
theorem name_blt {x : Str} {pos : Pos} {v : Value} {s : Shared} {g : Fz} {Q : Value → Shared → Prop} {E : Value → Shared → Prop} (X : St F Γ μ g s)
    (e : nsIn F.c.K mainGlobals x = some none) (hv : bootBuiltins x = some v) (hn : x ≠ "__name__") (hk : F.env.kindOf x = some .globalImplicit) (hd : (x == ("__debug__" : Str)) = false) (h : Q v s) :
    wpAny F.M F.A (eval (.Name x pos) F.env) Q E s :=
  Name_function_global X.ok.kind hk (loadGlobal_builtin (by rw [X.ok.glob]; exact X.top.g) (mg_none_of X.top.K X.top.g e) (by rw [X.ok.blt]; exact X.top.b) ((X.top.builtins x hn).trans hv) h) hd

theorem ev_bin {op : Operator} {l r : Expr} {pos : Pos} {a b d : D} (hl : Ev F Γ μ l a) (hr : Ev F Γ μ r b)
    (h : ∀ s g v u, St F Γ μ g s → Rep F.c g v a → Rep F.c g u b → wpAny F.M F.A (binaryOp op v u) (fun v s' => ∃ g', Ext s g s' g' ∧ Rep F.c g' v d) (fun _ _ => False) s) : Ev F Γ μ (.BinOp l op r pos) d := fun s g X => by
  refine wpAny_BinOp (wpAny_mono (hl s g X) (fun v s₁ ⟨g₁, x₁, r₁⟩ => wpAny_mono (hr s₁ g₁ (X.ext x₁)) (fun u s₂ ⟨g₂, x₂, r₂⟩ => ?_) fun _ _ f => f) fun _ _ f => f)
  exact wpAny_mono (h s₂ g₂ v u ((X.ext x₁).ext x₂) (r₁.mono x₂.gg) r₂) (fun _ _ ⟨g₃, x₃, r₃⟩ => ⟨g₃, (x₁.trans x₂).trans x₃, r₃⟩) fun _ _ f => f

theorem ev_add {l r : Expr} {pos : Pos} {i j : Int} (hl : Ev F Γ μ l (.i i)) (hr : Ev F Γ μ r (.i j)) : Ev F Γ μ (.BinOp l .Add r pos) (.i (i + j)) :=
  ev_bin hl hr fun _ _ _ _ X ⟨_, e⟩ ⟨_, e'⟩ => e ▸ e' ▸ add_int ⟨_, X.refl.toks _, _, rfl⟩
theorem ev_sub {l r : Expr} {pos : Pos} {i j : Int} (hl : Ev F Γ μ l (.i i)) (hr : Ev F Γ μ r (.i j)) : Ev F Γ μ (.BinOp l .Sub r pos) (.i (i - j)) :=
  ev_bin hl hr fun _ _ _ _ X ⟨_, e⟩ ⟨_, e'⟩ => e ▸ e' ▸ sub_int ⟨_, X.refl.toks _, _, rfl⟩
/-- small enough for the model's products -/
def Small (i : Int) : Prop := i.natAbs < 2 ^ 200
theorem small_bits {i : Int} (h : Small i) : Builtin.Int.intBits i ≤ 2 ^ 20 := by
  unfold Builtin.Int.intBits
  split
  · decide
  · rename_i q
    have h0 : i.natAbs ≠ 0 := by simpa using q
    have : i.natAbs.log2 < 200 := (Nat.log2_lt h0).mpr h
    have e : (2:Nat) ^ 20 = 1048576 := by decide
    omega
theorem ev_mul {l r : Expr} {pos : Pos} {i j : Int} (hl : Ev F Γ μ l (.i i)) (hr : Ev F Γ μ r (.i j)) (hi : Small i) (hj : Small j) : Ev F Γ μ (.BinOp l .Mult r pos) (.i (i * j)) :=
  ev_bin hl hr fun _ _ _ _ X ⟨_, e⟩ ⟨_, e'⟩ => e ▸ e' ▸ mul_int ⟨_, X.refl.toks _, _, rfl⟩ (.of_bits (small_bits hi) (small_bits hj))
end
end Mine

namespace Mine
section
variable {F : Fm} {Γ : Gam} {μ : Mu}

theorem Small.of_le {i : Int} (n : Nat) (h : i.natAbs ≤ n) (hn : n < 2 ^ 200 := by decide) : Small i := Nat.lt_of_le_of_lt h hn
theorem div_short {i j : Int} (hi : Small i) : Builtin.divisionGoesByPylong i j = false := by
  have h1 : i.natAbs.log2 < 200 := by
    by_cases h0 : i.natAbs = 0
    · rw [h0]; decide
    · exact (Nat.log2_lt h0).mpr hi
  unfold Builtin.divisionGoesByPylong
  simp only [Bool.and_eq_false_iff, decide_eq_false_iff_not]
  right
  split <;> omega
theorem ev_floordiv {l r : Expr} {pos : Pos} {i j : Int} (hl : Ev F Γ μ l (.i i)) (hr : Ev F Γ μ r (.i j)) (hi : Small i) (hj : j ≠ 0) : Ev F Γ μ (.BinOp l .FloorDiv r pos) (.i (i.fdiv j)) :=
  ev_bin hl hr fun _ _ _ _ X ⟨_, e⟩ ⟨_, e'⟩ => e ▸ e' ▸ floordiv_int hj ⟨_, X.refl.toks _, _, rfl⟩ (.inl (div_short hi))
theorem ev_mod {l r : Expr} {pos : Pos} {i j : Int} (hl : Ev F Γ μ l (.i i)) (hr : Ev F Γ μ r (.i j)) (hj : j ≠ 0) : Ev F Γ μ (.BinOp l .Mod r pos) (.i (i.fmod j)) :=
  ev_bin hl hr fun _ _ _ _ X ⟨_, e⟩ ⟨_, e'⟩ => e ▸ e' ▸ mod_int' hj ⟨_, X.refl.toks _, _, rfl⟩
theorem ev_pow {l r : Expr} {pos : Pos} {i j : Int} (hl : Ev F Γ μ l (.i i)) (hr : Ev F Γ μ r (.i j)) (h0 : 0 ≤ j) (hs : (Builtin.Int.intBits i : Int) * j ≤ 2 ^ 27) : Ev F Γ μ (.BinOp l .Pow r pos) (.i (i ^ j.toNat)) :=
  ev_bin hl hr fun _ _ _ _ X ⟨_, e⟩ ⟨_, e'⟩ => e ▸ e' ▸ pow_int h0 hs ⟨_, X.refl.toks _, _, rfl⟩
theorem ev_subb {l r : Expr} {pos : Pos} {i j : Bool} (hl : Ev F Γ μ l (.bool i)) (hr : Ev F Γ μ r (.bool j)) : Ev F Γ μ (.BinOp l .Sub r pos) (.i (b2i i - b2i j)) :=
  ev_bin hl hr fun _ _ v u X e e' => by
    have e : v = .bool i := e
    have e' : u = .bool j := e'
    subst e e'
    exact sub_bool ⟨_, X.refl.toks _, _, rfl⟩

theorem ev_cmp {op : CmpOp} {l r : Expr} {pos : Pos} {a b : D} {d : Bool} (hl : Ev F Γ μ l a) (hr : Ev F Γ μ r b)
    (h : ∀ s g v u, St F Γ μ g s → Rep F.c g v a → Rep F.c g u b → wpAny F.M F.A (compareOp op v u) (fun v s' => ∃ g', Ext s g s' g' ∧ v = .bool d) (fun _ _ => False) s)
    (hm : behindInMarks op r = false) : Ev F Γ μ (.Compare l [op] [r] pos) (.bool d) := fun s g X => by
  refine wpAny_Compare1 (wpAny_mono (hl s g X) (fun v s₁ ⟨g₁, x₁, r₁⟩ => wpAny_mono (hr s₁ g₁ (X.ext x₁)) (fun u s₂ ⟨g₂, x₂, r₂⟩ => ?_) fun _ _ f => f) fun _ _ f => f) hm
  exact wpAny_mono (h s₂ g₂ v u ((X.ext x₁).ext x₂) (r₁.mono x₂.gg) r₂) (fun _ _ ⟨g₃, x₃, r₃⟩ => ⟨g₃, (x₁.trans x₂).trans x₃, r₃⟩) fun _ _ f => f
theorem et_cmp {op : CmpOp} {l r : Expr} {pos : Pos} {a b : D} {d : Bool} (hl : Ev F Γ μ l a) (hr : Ev F Γ μ r b)
    (h : ∀ s g v u, St F Γ μ g s → Rep F.c g v a → Rep F.c g u b → wpAny F.M F.A (compareOp op v u) (fun v s' => ∃ g', Ext s g s' g' ∧ v = .bool d) (fun _ _ => False) s)
    (hm : behindInMarks op r = false) : Et F Γ μ (.Compare l [op] [r] pos) d := fun s g X => by
  refine wpAny_isTrue_Compare1 (wpAny_mono (hl s g X) (fun v s₁ ⟨g₁, x₁, r₁⟩ => wpAny_mono (hr s₁ g₁ (X.ext x₁)) (fun u s₂ ⟨g₂, x₂, r₂⟩ => ?_) fun _ _ f => f) fun _ _ f => f) hm
  refine wpAny_mono (h s₂ g₂ v u ((X.ext x₁).ext x₂) (r₁.mono x₂.gg) r₂) (fun _ _ ⟨g₃, x₃, r₃⟩ => ?_) fun _ _ f => f
  subst r₃
  exact wpAny_truthy_bool ⟨rfl, g₃, (x₁.trans x₂).trans x₃⟩

theorem c_eq {i j : Int} (s g v u) (X : St F Γ μ g s) : Rep F.c g v (.i i) → Rep F.c g u (.i j) → wpAny F.M F.A (compareOp .Eq v u) (fun v s' => ∃ g', Ext s g s' g' ∧ v = .bool (i == j)) (fun _ _ => False) s := fun ⟨_, e⟩ ⟨_, e'⟩ => e ▸ e' ▸ eq_int ⟨_, X.refl, rfl⟩
theorem c_ne {i j : Int} (s g v u) (X : St F Γ μ g s) : Rep F.c g v (.i i) → Rep F.c g u (.i j) → wpAny F.M F.A (compareOp .NotEq v u) (fun v s' => ∃ g', Ext s g s' g' ∧ v = .bool (i != j)) (fun _ _ => False) s := fun ⟨_, e⟩ ⟨_, e'⟩ => e ▸ e' ▸ ne_int ⟨_, X.refl, rfl⟩
theorem c_lt {i j : Int} (s g v u) (X : St F Γ μ g s) : Rep F.c g v (.i i) → Rep F.c g u (.i j) → wpAny F.M F.A (compareOp .Lt v u) (fun v s' => ∃ g', Ext s g s' g' ∧ v = .bool (decide (i < j))) (fun _ _ => False) s := fun ⟨_, e⟩ ⟨_, e'⟩ => e ▸ e' ▸ lt_int ⟨_, X.refl, rfl⟩
theorem c_gt {i j : Int} (s g v u) (X : St F Γ μ g s) : Rep F.c g v (.i i) → Rep F.c g u (.i j) → wpAny F.M F.A (compareOp .Gt v u) (fun v s' => ∃ g', Ext s g s' g' ∧ v = .bool (decide (j < i))) (fun _ _ => False) s := fun ⟨_, e⟩ ⟨_, e'⟩ => e ▸ e' ▸ gt_int ⟨_, X.refl, rfl⟩
theorem c_ge {i j : Int} (s g v u) (X : St F Γ μ g s) : Rep F.c g v (.i i) → Rep F.c g u (.i j) → wpAny F.M F.A (compareOp .GtE v u) (fun v s' => ∃ g', Ext s g s' g' ∧ v = .bool (decide (j ≤ i))) (fun _ _ => False) s := fun ⟨_, e⟩ ⟨_, e'⟩ => e ▸ e' ▸ ge_int ⟨_, X.refl, rfl⟩

-- pairs and lists compared
def S.py : S → PyData
  | .int i => .int i
  | .rat p q => .tuple [.int p, .int q]
theorem S.eqv : ∀ x y : S, PyData.eqv x.py y.py = decide (x = y)
  | .int i, .int j => by by_cases h : i = j <;> simp [S.py, PyData.eqv, h]
  | .rat p q, .rat p' q' => by by_cases h : p = p' <;> by_cases h' : q = q' <;> simp [S.py, PyData.eqv, PyData.eqvAll, h, h']
  | .int i, .rat p q => by simp [S.py, PyData.eqv]
  | .rat p q, .int i => by simp [S.py, PyData.eqv]
theorem S.eqvAll : ∀ l k : List S, PyData.eqvAll (l.map S.py) (k.map S.py) = decide (l = k)
  | [], [] => by simp [PyData.eqvAll]
  | [], _ :: _ => by simp [PyData.eqvAll]
  | _ :: _, [] => by simp [PyData.eqvAll]
  | a :: r, b :: t => by
    simp only [List.map_cons, PyData.eqvAll, S.eqv, S.eqvAll r t]
    by_cases h : a = b <;> by_cases h' : r = t <;> simp [h, h']

theorem RepS.reads {h : Heap} {g : Fz} (gs : ∀ a o, g a = some o → h.get? a = some o) {v : Value} {x : S} (r : RepS g v x) : ∃ as, Reads h v x.py as := by
  cases x with
  | int i => obtain ⟨t, rfl⟩ := r; exact ⟨_, Reads.int _ _⟩
  | rat p q =>
    obtain ⟨a, o, t, u, rfl, ho, hc, n, hd⟩ := r
    exact ⟨_, reads_tuple_at (n := n) (gs _ _ ho) hc hd (ReadsAll.cons (Reads.int _ _) (ReadsAll.cons (Reads.int _ _) ReadsAll.nil))⟩
theorem RepSs.reads {h : Heap} {g : Fz} (gs : ∀ a o, g a = some o → h.get? a = some o) : ∀ {vs : List Value} {l : List S}, Paired (RepS g) vs l → ∃ as, ReadsAll h vs (l.map S.py) as
  | _, _, .nil => ⟨_, .nil⟩
  | _, _, .cons a r => let ⟨_, x⟩ := RepS.reads gs a; let ⟨_, y⟩ := RepSs.reads gs r; ⟨_, .cons x y⟩
theorem Rep.reads_lst {c : Cx} {h : Heap} {g : Fz} (gs : ∀ a o, g a = some o → h.get? a = some o) {v : Value} {l : List S} (r : Rep c g v (.lst l)) : ∃ as, Reads h v (.list (l.map S.py)) as := by
  obtain ⟨a, o, rfl, ho, vs, ⟨hc, ⟨n, hd⟩, _⟩, p⟩ := r
  obtain ⟨as, x⟩ := RepSs.reads gs p
  exact ⟨_, reads_list_at (gs _ _ ho) hc hd (by simpa using x)⟩
theorem S.shaped (x : S) : SeqAt.shaped x.py = true := by
  cases x with
  | int i => rfl
  | rat p q => rfl
end
end Mine

namespace Mine

/-- what a call of the text's def at f gives back -/
def CallD (c : Cx) (k : Nat) (f : Addr) (args : List D) (d : D) : Prop :=
  ∀ (A : Around) (s : Shared) (g : Fz) (vs : List Value), Room A k → TopOk c s.heap → (∀ a o, g a = some o → s.heap.get? a = some o) → BaseZ c g → Paired (Rep c g) vs args →
    wpAny (model c.prog c.w) A (call (.ref f) vs) (fun v s' => ∃ g', Ext s g s' g' ∧ Rep c g' v d) (fun _ _ => False) s

theorem Room.le {A : Around} {k j : Nat} (h : Room A k) (hj : j ≤ k) : Room A j := ⟨by have := h.depth; omega, by have := h.units; omega, h.hnd⟩
theorem BaseZ.mono {c : Cx} {g g' : Fz} (h : BaseZ c g) (k : ∀ a o, g a = some o → g' a = some o) : BaseZ c g' := fun a o x e => k _ _ (h a o x e)
theorem reps_mono {c : Cx} {g g' : Fz} (h : ∀ a o, g a = some o → g' a = some o) {vs : List Value} {l : List D} (r : Paired (Rep c g) vs l) : Paired (Rep c g') vs l :=
  r.mono fun _ _ x => x.mono h

theorem one_of {α β : Type} {R : α → β → Prop} {vs : List α} {d : β} (r : Paired R vs [d]) : ∃ v, vs = [v] ∧ R v d := by
  cases r with
  | cons a b => cases b; exact ⟨_, rfl, a⟩
theorem two_of {α β : Type} {R : α → β → Prop} {vs : List α} {d e : β} (r : Paired R vs [d, e]) : ∃ v u, vs = [v, u] ∧ R v d ∧ R u e := by
  cases r with
  | cons a b => obtain ⟨u, rfl, c⟩ := one_of b; exact ⟨_, _, rfl, a, c⟩
theorem three_of {α β : Type} {R : α → β → Prop} {vs : List α} {d e f : β} (r : Paired R vs [d, e, f]) : ∃ v u w, vs = [v, u, w] ∧ R v d ∧ R u e ∧ R w f := by
  cases r with
  | cons a b => obtain ⟨u, w, rfl, c, k⟩ := two_of b; exact ⟨_, _, _, rfl, a, c, k⟩

section
variable {F : Fm} {Γ : Gam} {μ : Mu}

theorem S.canLayAll0 : ∀ l : List S, PyData.canLayAll0 (l.map S.py) = true
  | [] => by simp [PyData.canLayAll0]
  | .int i :: r => by simp [PyData.canLayAll0, PyData.canLay0, S.py, S.canLayAll0 r]
  | .rat p q :: r => by simp [PyData.canLayAll0, PyData.canLay0, S.py, S.canLayAll0 r]
theorem S.depthAll : ∀ l : List S, PyData.depthAll (l.map S.py) ≤ 1
  | [] => by simp [PyData.depthAll]
  | .int i :: r => by have := S.depthAll r; simp [PyData.depthAll, PyData.depth, S.py]; omega
  | .rat p q :: r => by have := S.depthAll r; simp [PyData.depthAll, PyData.depth, S.py]; omega
theorem S.shapedL (l : List S) : SeqAt.shaped (.list (l.map S.py)) = true := by
  have := S.depthAll l
  simp only [SeqAt.shaped, PyData.canLay0, PyData.depth, S.canLayAll0, Bool.true_and]
  exact decide_eq_true (by omega)

theorem c_eqS {x y : S} (s g v u) (X : St F Γ μ g s) (a : Rep F.c g v (.s x)) (b : Rep F.c g u (.s y)) : wpAny F.M F.A (compareOp .Eq v u) (fun v s' => ∃ g', Ext s g s' g' ∧ v = .bool (decide (x = y))) (fun _ _ => False) s := by
  obtain ⟨_, a⟩ := RepS.reads X.base.gs a
  obtain ⟨_, b⟩ := RepS.reads X.base.gs b
  exact eq_dataH a b x.shaped y.shaped (by have := X.ok.room.units; omega) ⟨_, X.refl, by rw [S.eqv]⟩
theorem c_neS {x y : S} (s g v u) (X : St F Γ μ g s) (a : Rep F.c g v (.s x)) (b : Rep F.c g u (.s y)) : wpAny F.M F.A (compareOp .NotEq v u) (fun v s' => ∃ g', Ext s g s' g' ∧ v = .bool (!decide (x = y))) (fun _ _ => False) s := by
  obtain ⟨_, a⟩ := RepS.reads X.base.gs a
  obtain ⟨_, b⟩ := RepS.reads X.base.gs b
  exact ne_dataH a b x.shaped y.shaped (by have := X.ok.room.units; omega) ⟨_, X.refl, by rw [S.eqv]⟩
theorem c_eqL {x y : List S} (s g v u) (X : St F Γ μ g s) (a : Rep F.c g v (.lst x)) (b : Rep F.c g u (.lst y)) : wpAny F.M F.A (compareOp .Eq v u) (fun v s' => ∃ g', Ext s g s' g' ∧ v = .bool (decide (x = y))) (fun _ _ => False) s := by
  obtain ⟨_, a⟩ := Rep.reads_lst X.base.gs a
  obtain ⟨_, b⟩ := Rep.reads_lst X.base.gs b
  refine eq_dataH a b (S.shapedL x) (S.shapedL y) (by have := X.ok.room.units; omega) ⟨_, X.refl, ?_⟩
  rw [show PyData.eqv (.list (x.map S.py)) (.list (y.map S.py)) = PyData.eqvAll (x.map S.py) (y.map S.py) by simp [PyData.eqv], S.eqvAll]

theorem et_bool {x : Str} {pos : Pos} {b : Bool} (h : Ev F Γ μ (.Name x pos) (.bool b)) : Et F Γ μ (.Name x pos) b := fun s g X =>
  wpAny_isTrue_value (wpAny_mono (h s g X) (fun v s' ⟨g', x, r⟩ => by
    have r : v = .bool b := r
    subst r
    exact wpAny_truthy_bool ⟨rfl, g', x⟩) fun _ _ f => f)
theorem et_not {e : Expr} {pos : Pos} {b : Bool} (h : Et F Γ μ e b) : Et F Γ μ (.UnaryOp .Not e pos) (!b) := fun s g X =>
  wpAny_isTrue_Not (wpAny_mono (h s g X) (fun v s' ⟨r, x⟩ => ⟨by rw [r], x⟩) fun _ _ f => f)
theorem et_and {x y : Expr} {pos : Pos} {b c : Bool} (hx : Et F Γ μ x b) (hy : b = true → Et F Γ μ y c) : Et F Γ μ (.BoolOp .And [x, y] pos) (b && c) := fun s g X => by
  refine wpAny_isTrue_BoolOp (wpAny_allTrue_And_cons (wpAny_mono (hx s g X) (fun r s' ⟨e, g', x'⟩ => ?_) fun _ _ f => f))
  subst e
  cases r with
  | false => exact ⟨rfl, g', x'⟩
  | true =>
    simp only [if_true, Bool.true_and]
    refine wpAny_allTrue_And_cons (wpAny_mono (hy rfl s' g' (X.ext x')) (fun r s'' ⟨e, g'', x''⟩ => ?_) fun _ _ f => f)
    subst e
    cases r with
    | false => exact ⟨rfl, g'', x'.trans x''⟩
    | true => exact wpAny_allTrue_And_nil ⟨rfl, g'', x'.trans x''⟩
theorem et_or {x y : Expr} {pos : Pos} {b c : Bool} (hx : Et F Γ μ x b) (hy : b = false → Et F Γ μ y c) : Et F Γ μ (.BoolOp .Or [x, y] pos) (b || c) := fun s g X => by
  refine wpAny_isTrue_BoolOp (wpAny_allTrue_Or_cons (wpAny_mono (hx s g X) (fun r s' ⟨e, g', x'⟩ => ?_) fun _ _ f => f))
  subst e
  cases r with
  | true => exact ⟨rfl, g', x'⟩
  | false =>
    simp only [if_false, Bool.false_or, Bool.false_eq_true]
    refine wpAny_allTrue_Or_cons (wpAny_mono (hy rfl s' g' (X.ext x')) (fun r s'' ⟨e, g'', x''⟩ => ?_) fun _ _ f => f)
    subst e
    cases r with
    | true => exact ⟨rfl, g'', x'.trans x''⟩
    | false => exact wpAny_allTrue_Or_nil ⟨rfl, g'', x'.trans x''⟩
/-- «x and y» whose first is false -/
theorem ev_and_false {x y : Expr} {pos : Pos} (hx : Ev F Γ μ x (.bool false)) : Ev F Γ μ (.BoolOp .And [x, y] pos) (.bool false) := fun s g X =>
  wpAny_And2 (wpAny_mono (hx s g X) (fun v s' ⟨g', x', r⟩ => by
    have r : v = .bool false := r
    subst r
    exact wpAny_truthy_bool ⟨g', x', rfl⟩) fun _ _ f => f)

theorem ev_if {t a b : Expr} {pos : Pos} {c : Bool} {d : D} (ht : Et F Γ μ t c) (ha : c = true → Ev F Γ μ a d) (hb : c = false → Ev F Γ μ b d) : Ev F Γ μ (.IfExp t a b pos) d := fun s g X => by
  refine wpAny_IfExp (wpAny_mono (ht s g X) (fun r s' ⟨e, g', x⟩ => ?_) fun _ _ f => f)
  subst e
  cases r with
  | true => exact wpAny_mono (ha rfl s' g' (X.ext x)) (fun v s'' ⟨g'', y, r⟩ => ⟨g'', x.trans y, r⟩) fun _ _ f => f
  | false => exact wpAny_mono (hb rfl s' g' (X.ext x)) (fun v s'' ⟨g'', y, r⟩ => ⟨g'', x.trans y, r⟩) fun _ _ f => f

theorem evs_nil {pos : Pos} : Evs F Γ μ pos [] [] := fun s g X => wpAny_items_nil ⟨g, X.refl, .nil⟩
theorem evs_cons {pos : Pos} {e : Expr} {es : List Expr} {d : D} {ds : List D} (h : Ev F Γ μ e d) (t : Evs F Γ μ pos es ds) (he : starEach (e :: es) F.env = (false, eval e F.env) :: starEach es F.env) :
    Evs F Γ μ pos (e :: es) (d :: ds) := fun s g X =>
  wpAny_items_cons (wpAny_mono (h s g X) (fun v s' ⟨g', x, r⟩ => wpAny_mono (t s' g' (X.ext x)) (fun vs s'' ⟨g'', y, q⟩ => ⟨g'', x.trans y, .cons (r.mono y.gg) q⟩) fun _ _ f => f) fun _ _ f => f) he

/-- a new object at the heap's end -/
theorem push_ext {s s₁ : Shared} {g g₁ : Fz} (x : Ext s g s₁ g₁) (o : Obj) : Ext s g { s₁ with heap := s₁.heap.push o } g₁ :=
  x.trans (Ext.heap (t := s₁.toks) x.gs fun _ _ e => Heap.get?_push_of_some _ e)
theorem none_at_end {s s₁ : Shared} {g g₁ : Fz} (x : Ext s g s₁ g₁) : s.heap.get? s₁.heap.objs.size = none := by
  cases q : s.heap.get? s₁.heap.objs.size with
  | none => rfl
  | some o => exact absurd (Heap.lt_size (x.keep _ _ q)) (Nat.lt_irrefl _)
theorem frozen_at_end {s s₁ : Shared} {g g₁ : Fz} (x : Ext s g s₁ g₁) : g₁ s₁.heap.objs.size = none := by
  cases q : g₁ s₁.heap.objs.size with
  | none => rfl
  | some o => exact absurd (Heap.lt_size (x.gs _ _ q)) (Nat.lt_irrefl _)
theorem mods_at_end {s s₁ : Shared} {g g₁ : Fz} (X : St F Γ μ g s) (x : Ext s g s₁ g₁) : (s₁.heap.objs.size == sysModules) = false := by
  have h : 3 < s₁.heap.objs.size := (X.ext x).top.g.lt
  refine beq_eq_false_iff_ne.mpr fun e => ?_
  have e : s₁.heap.objs.size = 1 := e
  omega
theorem push_frozen {s s₁ : Shared} {g g₁ : Fz} (x : Ext s g s₁ g₁) {o : Obj} (hf : o.isFreed = false) : Ext s g { s₁ with heap := s₁.heap.push o } (addz g₁ s₁.heap.objs.size o) :=
  (push_ext x o).freeze (Heap.get?_push_size _ hf) (frozen_at_end x) (none_at_end x)

theorem ev_pair {e₁ e₂ : Expr} {k : Nat} {pos : Pos} {p q : Int} (h : Evs F Γ μ pos [e₁, e₂] [.i p, .i q]) : Ev F Γ μ (.Tuple [e₁, e₂] k pos) (.r p q) := fun s g X => by
  refine wpAny_Tuple (wpAny_mono (h s g X) (fun vs s₁ ⟨g₁, x, r⟩ => ?_) fun _ _ f => f)
  obtain ⟨_, _, rfl, ⟨t, ht⟩, u, hu⟩ := two_of r
  · subst ht hu
    exact ⟨by show 2 ≤ sizeLine; decide, _, push_frozen x rfl, _, _, t, u, rfl, addz_self, rfl, _, rfl⟩
theorem paired_s {c : Cx} {g : Fz} : ∀ {vs : List Value} {l : List S}, Paired (Rep c g) vs (l.map D.s) → Paired (RepS g) vs l
  | [], [], _ => .nil
  | _ :: _, _ :: _, .cons a r => .cons a (paired_s r)
theorem evn_list {es : List Expr} {pos : Pos} {l : List S} (h : Evs F Γ μ pos es (l.map D.s)) (hz : l.length ≤ 1000) : Evn F Γ μ (.List es pos) (.lst l) := fun s g X => by
  refine wpAny_List (wpAny_mono (h s g X) (fun vs s₁ ⟨g₁, x, r⟩ => ?_) fun _ _ f => f)
  have hl : vs.length = l.length := by have := r.length; simpa using this
  exact ⟨by rw [hl]; exact Nat.le_trans hz (by decide), g₁, _, _, push_ext x _, rfl, none_at_end x, frozen_at_end x, Heap.get?_push_size _ rfl, ⟨vs, ⟨rfl, ⟨_, rfl⟩, rfl, rfl⟩, paired_s r⟩, mods_at_end X x⟩

theorem ev_call {x : Str} {np pos : Pos} {fa : Addr} {e₀ : Expr} {es : List Expr} {ds : List D} {d : D} {k : Nat} (hc : CallD F.c k fa ds d) (ha : Evs F Γ μ pos (e₀ :: es) ds)
    (e : nsIn F.c.K mainGlobals x = some (some (.ref fa))) (hk : keepIn F.c.K (.ref fa) = true) (hle : k ≤ F.k) (hx : F.env.kindOf x = some .globalImplicit) (hd : (x == ("__debug__" : Str)) = false)
    (he : starEach (e₀ :: es) F.env = (false, eval e₀ F.env) :: starEach es F.env) (hp : (backTo pos (starEach es F.env)).any (·.1) = false) : Ev F Γ μ (.Call (.Name x np) (e₀ :: es) [] pos) d := fun s g X => by
  refine Call_ (name_glob X e hx hd (callWith_K X.top.K hk (wpAny_mono (ha s g X) (fun vs s' ⟨g', x', r⟩ => ?_) fun _ _ f => f) he hp))
  refine ⟨(X.ext x').top.K, ?_⟩
  exact wpAny_mono (hc F.A s' g' vs (X.ok.room.le hle) (X.ext x').top x'.gs (X.ok.base.mono fun a o q => x'.gg _ _ (X.base.gg _ _ q)) r) (fun v s'' ⟨g'', y, r'⟩ => ⟨g'', x'.trans y, r'⟩) fun _ _ f => f

/-- a call of a built-in with one argument or more -/
theorem ev_blt {x : Str} {id : String} {np pos : Pos} {e₀ : Expr} {es : List Expr} {ds : List D} {d : D} (ha : Evs F Γ μ pos (e₀ :: es) ds)
    (e : nsIn F.c.K mainGlobals x = some none) (hv : bootBuiltins x = some (.builtin id)) (hn : x ≠ "__name__") (hx : F.env.kindOf x = some .globalImplicit) (hd : (x == ("__debug__" : Str)) = false)
    (he : starEach (e₀ :: es) F.env = (false, eval e₀ F.env) :: starEach es F.env) (hp : (backTo pos (starEach es F.env)).any (·.1) = false)
    (h : ∀ s g vs, St F Γ μ g s → Paired (Rep F.c g) vs ds → wpAny F.M F.A (call (.builtin id) vs) (fun v s' => ∃ g', Ext s g s' g' ∧ Rep F.c g' v d) (fun _ _ => False) s) :
    Ev F Γ μ (.Call (.Name x np) (e₀ :: es) [] pos) d := fun s g X => by
  refine Call_ (name_blt X e hv hn hx hd (PyProof.Rows.callWith_builtin1 (wpAny_mono (ha s g X) (fun vs s' ⟨g', x', r⟩ => ?_) fun _ _ f => f) he hp))
  exact wpAny_mono (h s' g' vs (X.ext x') r) (fun v s'' ⟨g'', y, r'⟩ => ⟨g'', x'.trans y, r'⟩) fun _ _ f => f

theorem b_abs {i : Int} (s g vs) (X : St F Γ μ g s) (r : Paired (Rep F.c g) vs [.i i]) : wpAny F.M F.A (call (.builtin "abs") vs) (fun v s' => ∃ g', Ext s g s' g' ∧ Rep F.c g' v (.i (if i < 0 then -i else i))) (fun _ _ => False) s := by
  obtain ⟨_, rfl, t, ht⟩ := one_of r
  subst ht; exact call_abs_int fun u tk => ⟨g, X.refl.toks _, _, rfl⟩
theorem b_max {i j : Int} (s g vs) (X : St F Γ μ g s) (r : Paired (Rep F.c g) vs [.i i, .i j]) : wpAny F.M F.A (call (.builtin "max") vs) (fun v s' => ∃ g', Ext s g s' g' ∧ Rep F.c g' v (.i (if i < j then j else i))) (fun _ _ => False) s := by
  obtain ⟨_, _, rfl, ⟨t, ht⟩, u, hu⟩ := two_of r
  · subst ht hu
    refine Flt.max_two_num X.ok.room.hnd (.int _ _) (.int _ _) fun h' tk hk => ⟨g, Ext.heap X.base.gs hk, ?_⟩
    by_cases h : i < j
    · exact ⟨u, by simp [Flt.ltV, h]⟩
    · exact ⟨t, by simp [Flt.ltV, h]⟩
theorem b_min {i j : Int} (s g vs) (X : St F Γ μ g s) (r : Paired (Rep F.c g) vs [.i i, .i j]) : wpAny F.M F.A (call (.builtin "min") vs) (fun v s' => ∃ g', Ext s g s' g' ∧ Rep F.c g' v (.i (if j < i then j else i))) (fun _ _ => False) s := by
  obtain ⟨_, _, rfl, ⟨t, ht⟩, u, hu⟩ := two_of r
  · subst ht hu
    refine Flt.min_two_num X.ok.room.hnd (.int _ _) (.int _ _) fun h' tk hk => ⟨g, Ext.heap X.base.gs hk, ?_⟩
    by_cases h : j < i
    · exact ⟨u, by simp [Flt.ltV, h]⟩
    · exact ⟨t, by simp [Flt.ltV, h]⟩
theorem b_len {l : List S} (hz : l.length ≤ 1000) (s g vs) (X : St F Γ μ g s) (r : Paired (Rep F.c g) vs [.lst l]) : wpAny F.M F.A (call (.builtin "len") vs) (fun v s' => ∃ g', Ext s g s' g' ∧ Rep F.c g' v (.i l.length)) (fun _ _ => False) s := by
  obtain ⟨_, rfl, a, o, ha, ho, ws, ⟨hc, ⟨n, hd⟩, _⟩, q⟩ := one_of r
  · subst ha
    have hl := q.length
    exact kun_lenL (items := ws.toArray) ⟨o, X.base.gs _ _ ho, hc, n, hd⟩ (by simp [hl]) (by omega) ⟨g, X.refl.toks _, _, rfl⟩
end
end Mine

namespace Mine

theorem paired_get {α β : Type} {R : α → β → Prop} : ∀ {vs : List α} {l : List β} (_ : Paired R vs l) {k : Nat} {x : β}, l[k]? = some x → ∃ v, vs[k]? = some v ∧ R v x
  | _, _, .cons a r, 0, x, h => by simp at h; exact ⟨_, rfl, h ▸ a⟩
  | _, _, .cons a r, k + 1, x, h => by simp at h; obtain ⟨v, hv, q⟩ := paired_get r h; exact ⟨v, by simpa using hv, q⟩
theorem paired_app {α β : Type} {R : α → β → Prop} : ∀ {vs : List α} {l : List β} {ws : List α} {k : List β}, Paired R vs l → Paired R ws k → Paired R (vs ++ ws) (l ++ k)
  | _, _, _, _, .nil, h => h
  | _, _, _, _, .cons a r, h => .cons a (paired_app r h)
theorem paired_take {α β : Type} {R : α → β → Prop} : ∀ {vs : List α} {l : List β} (n : Nat), Paired R vs l → Paired R (vs.take n) (l.take n)
  | _, _, 0, _ => .nil
  | _, _, _ + 1, .nil => .nil
  | _, _, n + 1, .cons a r => .cons a (paired_take n r)
theorem paired_drop {α β : Type} {R : α → β → Prop} : ∀ {vs : List α} {l : List β} (n : Nat), Paired R vs l → Paired R (vs.drop n) (l.drop n)
  | _, _, 0, h => h
  | _, _, _ + 1, .nil => .nil
  | _, _, n + 1, .cons _ r => paired_drop n r
theorem paired_rep {α β : Type} {R : α → β → Prop} {vs : List α} {l : List β} (h : Paired R vs l) : ∀ n : Nat, Paired R (List.replicate n vs).flatten (List.replicate n l).flatten
  | 0 => .nil
  | n + 1 => by simp only [List.replicate_succ, List.flatten_cons]; exact paired_app h (paired_rep h n)

theorem foldl_app (vs : List Value) : ∀ (k : Nat) (acc : List Value), List.foldl (fun (x1 x2 : Array Value) => x1 ++ x2) acc.toArray (List.replicate k vs.toArray) = (acc ++ (List.replicate k vs).flatten).toArray
  | 0, acc => by simp
  | k + 1, acc => by
    simp only [List.replicate_succ, List.foldl_cons, List.flatten_cons, List.append_toArray]
    rw [foldl_app vs k (acc ++ vs), List.append_assoc]
theorem foldl_reps (vs : List Value) (k : Nat) : List.foldl (fun (x1 x2 : Array Value) => x1 ++ x2) #[] (List.replicate k vs.toArray) = ((List.replicate k vs).flatten).toArray := foldl_app vs k []

section
variable {F : Fm} {Γ : Gam} {μ : Mu}

/-- the item of a subscript is read plainly -/
def PlainIx (slice : Expr) : Prop := ∀ (l : Addr) (k : Int) (u : Tok), subscripted slice false (.ref l) (.int k u) = operate [.ref l, .int k u] (getItem (.ref l) (.int k u))

theorem ev_item {value slice : Expr} {pos : Pos} {l : List S} {k : Int} {x : S} (hv : Ev F Γ μ value (.lst l)) (hs : Ev F Γ μ slice (.i k)) (h0 : 0 ≤ k) (hx : l[k.toNat]? = some x) (hz : l.length ≤ 1000) (hp : PlainIx slice) :
    Ev F Γ μ (.Subscript value slice pos) (.s x) := fun s g X => by
  refine Subscript_ (wpAny_mono (hv s g X) (fun v s₁ ⟨g₁, x₁, r₁⟩ => wpAny_mono (hs s₁ g₁ (X.ext x₁)) (fun u s₂ ⟨g₂, x₂, ⟨t, r₂⟩⟩ => ?_) fun _ _ f => f) fun _ _ f => f)
  subst r₂
  obtain ⟨a, o, rfl, ho, vs, ⟨hc, ⟨n, hd⟩, _⟩, q⟩ := r₁.mono x₂.gg
  obtain ⟨y, hy, r⟩ := paired_get q hx
  have hl : s₂.heap.IsList a vs.toArray := ⟨o, x₂.gs _ _ ho, hc, n, hd⟩
  have hk : k.toNat < l.length := by
    cases Nat.lt_or_ge k.toNat l.length with
    | inl h => exact h
    | inr h => rw [List.getElem?_eq_none h] at hx; cases hx
  exact tail_any hl.typeIs slot_list_getitem.lookup (wpAny_getItem_list hl h0 (by omega) (by simpa using hy) ⟨g₂, x₁.trans x₂, r⟩) (hp _ _ _)

theorem ev_item_mu {y : Str} {a : Addr} {np : Pos} {slice : Expr} {pos : Pos} {l : List S} {k : Int} {x : S} (hs : Ev F Γ (some (y, a, .lst l)) slice (.i k)) (h0 : 0 ≤ k) (hx : l[k.toNat]? = some x) (hz : l.length ≤ 1000) (hp : PlainIx slice)
    (hd : (y == ("__debug__" : Str)) = false) : Ev F Γ (some (y, a, .lst l)) (.Subscript (.Name y np) slice pos) (.s x) := fun s g X => by
  obtain ⟨m, L⟩ := X.loc
  have M := L.mu _ _ _ rfl
  refine Subscript_ (wpAny_Name (wpAny_loadName_local X.ok.kind M.loc L.ns M.var (wpAny_mono (hs s g X) (fun u s₂ ⟨g₂, x₂, ⟨t, r₂⟩⟩ => ?_) fun _ _ f => f)) hd)
  subst r₂
  obtain ⟨o, ho, vs, ⟨hc, ⟨n, hd⟩, _⟩, q⟩ := M.obj
  obtain ⟨y, hy, r⟩ := paired_get q hx
  have hl : s₂.heap.IsList a vs.toArray := ⟨o, x₂.keep _ _ ho, hc, n, hd⟩
  have hk : k.toNat < l.length := by
    cases Nat.lt_or_ge k.toNat l.length with
    | inl h => exact h
    | inr h => rw [List.getElem?_eq_none h] at hx; cases hx
  exact tail_any hl.typeIs slot_list_getitem.lookup (wpAny_getItem_list hl h0 (by omega) (by simpa using hy) ⟨g₂, x₂, r.mono x₂.gg⟩) (hp _ _ _)

theorem ev_part {value slice : Expr} {pos : Pos} {p q : Int} {k : Int} {x : Int} (hv : Ev F Γ μ value (.r p q)) (hs : Ev F Γ μ slice (.i k)) (hk : k = 0 ∧ x = p ∨ k = 1 ∧ x = q) (hp : PlainIx slice) :
    Ev F Γ μ (.Subscript value slice pos) (.i x) := fun s g X => by
  refine Subscript_ (wpAny_mono (hv s g X) (fun v s₁ ⟨g₁, x₁, r₁⟩ => wpAny_mono (hs s₁ g₁ (X.ext x₁)) (fun u s₂ ⟨g₂, x₂, ⟨t, r₂⟩⟩ => ?_) fun _ _ f => f) fun _ _ f => f)
  subst r₂
  obtain ⟨a, o, t1, t2, rfl, ho, hc, n, hd⟩ := RepS.mono (x := .rat p q) x₂.gg r₁
  have ht : IsTup s₂.heap a [Value.int p t1, Value.int q t2].toArray := ⟨o, x₂.gs _ _ ho, hc, n, hd⟩
  rcases hk with ⟨rfl, rfl⟩ | ⟨rfl, rfl⟩
  · exact item_tupleT ht (by decide) (by decide) (j := 0) rfl rfl ⟨g₂, x₁.trans x₂, _, rfl⟩ (hp _ _ _)
  · exact item_tupleT ht (by decide) (by decide) (j := 1) rfl rfl ⟨g₂, x₁.trans x₂, _, rfl⟩ (hp _ _ _)

theorem ev_add_lists {l r : Expr} {pos : Pos} {a b : List S} (hl : Ev F Γ μ l (.lst a)) (hr : Ev F Γ μ r (.lst b)) (hz : a.length + b.length ≤ 1000) : Evn F Γ μ (.BinOp l .Add r pos) (.lst (a ++ b)) := fun s g X => by
  refine wpAny_BinOp (wpAny_mono (hl s g X) (fun v s₁ ⟨g₁, x₁, r₁⟩ => wpAny_mono (hr s₁ g₁ (X.ext x₁)) (fun u s₂ ⟨g₂, x₂, r₂⟩ => ?_) fun _ _ f => f) fun _ _ f => f)
  obtain ⟨a1, ⟨cls, dd, data, sl⟩, rfl, ho, vs, ⟨hc, ⟨n, hd⟩, _⟩, q⟩ := r₁.mono x₂.gg
  obtain ⟨a2, ⟨cls2, dd2, data2, sl2⟩, rfl, ho2, ws, ⟨hc2, ⟨n2, hd2⟩, _⟩, q2⟩ := r₂
  simp only at hc hd hc2 hd2
  subst hc hd hc2 hd2
  have e1 := q.length
  have e2 := q2.length
  have hz' : vs.toArray.size + ws.toArray.size ≤ sizeLine := by simp [e1, e2]; exact Nat.le_trans hz (by decide)
  refine concat_meets ⟨_, x₂.gs _ _ ho, rfl⟩ ⟨_, x₂.gs _ _ ho2, rfl⟩ noFill_list_add seq_list_add PySem.F.slot_list_add PySem.F.entry_list_add (PySem.F.args_list_add_2 _ _) (list_addW a1 a2 vs.toArray ws.toArray n n2 dd dd2 sl sl2 hz') ⟨x₂.gs _ _ ho, x₂.gs _ _ ho2, ?_⟩
  have x := x₁.trans x₂
  exact ⟨g₂, _, _, push_ext x _, rfl, none_at_end x, frozen_at_end x, Heap.get?_push_size _ rfl, ⟨vs ++ ws, ⟨rfl, ⟨_, by simp only [List.append_toArray]; rfl⟩, rfl, rfl⟩, paired_app q q2⟩, mods_at_end X x⟩

/-- «[e, ..] * n» -/
theorem ev_mul_list {es : List Expr} {p pos : Pos} {r : Expr} {l : List S} {n : Int} (h : Evs F Γ μ p es (l.map D.s)) (hr : Ev F Γ μ r (.i n)) (h0 : 0 ≤ n) (hn : n ≤ 1000) (hne : l ≠ []) (hl : l.length ≤ 1000) (hz : l.length * n.toNat ≤ 1000) :
    Evn F Γ μ (.BinOp (.List es p) .Mult r pos) (.lst (List.replicate n.toNat l).flatten) := fun s g X => by
  refine wpAny_BinOp (wpAny_List (wpAny_mono (h s g X) (fun vs s₁ ⟨g₁, x, r₁⟩ => ?_) fun _ _ f => f))
  have e1 : vs.length = l.length := by have := r₁.length; simpa using this
  have hne' : vs.toArray.isEmpty = false := by
    cases vs with
    | nil => exact absurd (List.length_eq_zero_iff.mp e1.symm) hne
    | cons _ _ => simp
  refine ⟨by
    rw [e1]
    have : l.length * n.toNat ≤ 1000 := hz
    exact Nat.le_trans hl (by decide), ?_⟩
  have y := push_ext x { cls := .type "list", data := .seq vs.toArray }
  have hg : (s₁.heap.push { cls := .type "list", data := .seq vs.toArray }).get? s₁.heap.objs.size = some { cls := .type "list", data := .seq vs.toArray } := Heap.get?_push_size _ rfl
  refine wpAny_mono (hr _ g₁ (X.ext y)) (fun u s₂ ⟨g₂, x₂, ⟨t, r₂⟩⟩ => ?_) fun _ _ f => f
  subst r₂
  have hg2 := x₂.keep _ _ hg
  have xx := y.trans x₂
  have hz' : vs.toArray.size * n.toNat ≤ 2 ^ 24 := by simp [e1]; omega
  refine wpAny_binaryOp_repeat_ref (T := "list") (U := "int") (by decide) ⟨_, hg2, rfl⟩ (fun s' => typeIs_int s' n t) noFill_list_mul PySem.F.fills_int_mul PySem.F.slot_int_rmul repeat_list PySem.F.slot_int_index.lookup
    (call_meets PySem.F.slot_int_rmul (typeIs_int s₂ n t) PySem.F.entry_int_rmul (PySem.F.args_int_rmul_2 _ _) (int___rmul___int_list n t _ vs.toArray _)
      ⟨hg2, rfl, ⟨_, hg2, rfl⟩, call_meets PySem.F.slot_list_mul ⟨_, hg2, rfl⟩ PySem.F.entry_list_mul (PySem.F.args_list_mul_2 _ _)
        (AutoListH.list___mul___list_int_3 _ vs.toArray _ n t (by simp [Builtin.List.listFitsIndex]; omega) (by omega) (by simp [Builtin.List.listTooLong, sizeLine]; omega)) ⟨hg2, ?_⟩⟩)
  rw [if_neg (by rw [hne']; exact Bool.false_ne_true)]
  exact ⟨g₂, _, _, push_ext xx _, rfl, none_at_end xx, frozen_at_end xx, Heap.get?_push_size _ rfl, ⟨(List.replicate n.toNat vs).flatten, ⟨rfl, ⟨_, by rw [foldl_reps]⟩, rfl, rfl⟩, paired_rep (RepSs.mono x₂.gg (paired_s r₁)) _⟩, mods_at_end X xx⟩
theorem ev_list_of {x : Expr} {np pos : Pos} {l : List S} (hx : Ev F Γ μ x (.lst l)) (hz : l.length ≤ 1000)
    (e : nsIn F.c.K mainGlobals "list" = some none) (hk : F.env.kindOf "list" = some .globalImplicit)
    (he : starEach [x] F.env = [(false, eval x F.env)]) : Evn F Γ μ (.Call (.Name "list" np) [x] [] pos) (.lst l) := fun s g X => by
  refine Call_ (name_blt X e boot_list (by decide) hk (by decide) (PyProof.Rows.callWith_type1 (wpAny_items_cons (wpAny_mono (hx s g X) (fun v s₁ ⟨g₁, x₁, r⟩ => wpAny_items_nil ?_) fun _ _ f => f) he) he rfl))
  obtain ⟨a, o, rfl, ho, vs, ⟨hc, ⟨n, hd⟩, _⟩, q⟩ := r
  have e1 := q.length
  refine call_list_seq a (.inl rfl) (x₁.gs _ _ ho) hc hd (fun h' c' hk hD => ?_) (by simp [e1]; exact Nat.le_trans hz (by decide))
  have y : Ext s₁ g₁ { s₁ with heap := h' } g₁ := Ext.heap x₁.gs hk
  exact ⟨g₁, _, _, x₁.trans y, rfl, none_at_end x₁, frozen_at_end x₁, hD, ⟨vs, ⟨rfl, ⟨_, rfl⟩, rfl, rfl⟩, q⟩, mods_at_end X x₁⟩

/-- a slice of a list by a name: «x[:e]», «x[e:]» -/
theorem slice_at {value slice : Expr} {s₁ : Shared} {s : Shared} {g g₁ : Fz} {a : Addr} {o : Obj} {vs : List Value} {l : List S} {vl vu : Value} {lo hi : Option Int} (x : Ext s g s₁ g₁) (ho : g₁ a = some o) (X : St F Γ μ g s) (hO : LstO o vs.toArray) (q : Paired (RepS g₁) vs l) (hz : l.length ≤ 1000)
    (pl : IsPart vl lo) (pu : IsPart vu hi) (ws : List Value) (k : List S) (e : slicePick vs.toArray lo hi none = ws.toArray) (q' : Paired (RepS g₁) ws k)
    (hs : subscripted slice false (.ref a) (.ref s₁.heap.objs.size) = operate [.ref s₁.heap.objs.size, .ref a] (getItem (.ref a) (.ref s₁.heap.objs.size))) (ht : ∀ r, letTemporaryGo value (.ref a) r = pure ()) :
    wpAny F.M F.A (subscriptTail value slice (.ref a) (.ref s₁.heap.objs.size)) (fun v s' => ∃ g' a o, Ext s g s' g' ∧ v = .ref a ∧ s.heap.get? a = none ∧ g' a = none ∧ s'.heap.get? a = some o ∧ RepO F.c g' o (.lst k) ∧ (a == sysModules) = false) (fun _ _ => False)
      { s₁ with heap := s₁.heap.push { cls := .type "slice", data := .fields #[vl, vu, .none] } } := by
  obtain ⟨hc, ⟨n, hd⟩, _⟩ := hO
  have e1 := q.length
  refine slice_listK (s := s₁) (items := vs.toArray) ⟨o, x.gs _ _ ho, hc, n, hd⟩ pl pu ?_ hs ht (by simp [e1]; exact Nat.le_trans hz (by decide))
  have y := push_ext x { cls := .type "slice", data := .fields #[vl, vu, .none] }
  have hsz : (s₁.heap.push { cls := .type "slice", data := .fields #[vl, vu, .none] }).objs.size = s₁.heap.objs.size + 1 := Heap.size_push _ _
  refine ⟨g₁, s₁.heap.objs.size + 1, { cls := Value.type "list", data := Data.seq (slicePick vs.toArray lo hi none) }, push_ext y _, rfl, ?_, ?_, ?_, ⟨ws, ⟨rfl, ⟨_, by rw [e]⟩, rfl, rfl⟩, q'⟩, ?_⟩
  · have := none_at_end y; rwa [hsz] at this
  · have := frozen_at_end y; rwa [hsz] at this
  · have := Heap.get?_push_size (s₁.heap.push { cls := .type "slice", data := .fields #[vl, vu, .none] }) (o := { cls := Value.type "list", data := Data.seq (slicePick vs.toArray lo hi none) }) rfl
    rwa [hsz] at this
  · have := mods_at_end X y; rwa [hsz] at this

theorem ev_upto {value e : Expr} {p pos : Pos} {l : List S} {n : Int} (hv : Ev F Γ μ value (.lst l)) (he : Ev F Γ μ e (.i n)) (h0 : 0 ≤ n) (hz : l.length ≤ 1000)
    (hs : ∀ a b, subscripted (.Slice none (some e) none p) false (.ref a) (.ref b) = operate [.ref b, .ref a] (getItem (.ref a) (.ref b))) (ht : ∀ a r, letTemporaryGo value (.ref a) r = pure ()) :
    Evn F Γ μ (.Subscript value (.Slice none (some e) none p) pos) (.lst (l.take n.toNat)) := fun s g X => by
  refine Subscript_ (wpAny_mono (hv s g X) (fun v s₁ ⟨g₁, x₁, r₁⟩ => wpAny_Slice (wpAny_evalPart_none (wpAny_evalPart_some (wpAny_mono (he s₁ g₁ (X.ext x₁)) (fun u s₂ ⟨g₂, x₂, ⟨t, r₂⟩⟩ => wpAny_evalPart_none ?_) fun _ _ f => f)))) fun _ _ f => f)
  subst r₂
  obtain ⟨a, o, rfl, ho, vs, hO, q⟩ := r₁.mono x₂.gg
  obtain ⟨k, rfl⟩ := Int.eq_ofNat_of_zero_le h0
  exact slice_at (x₁.trans x₂) ho X hO q hz .none (.int _ _) (vs.take k) (l.take k) (by rw [slicePick_upto']) (paired_take k q) (hs _ _) (ht _)
theorem ev_from {value e : Expr} {p pos : Pos} {l : List S} {n : Int} (hv : Ev F Γ μ value (.lst l)) (he : Ev F Γ μ e (.i n)) (h0 : 0 ≤ n) (hz : l.length ≤ 1000)
    (hs : ∀ a b, subscripted (.Slice (some e) none none p) false (.ref a) (.ref b) = operate [.ref b, .ref a] (getItem (.ref a) (.ref b))) (ht : ∀ a r, letTemporaryGo value (.ref a) r = pure ()) :
    Evn F Γ μ (.Subscript value (.Slice (some e) none none p) pos) (.lst (l.drop n.toNat)) := fun s g X => by
  refine Subscript_ (wpAny_mono (hv s g X) (fun v s₁ ⟨g₁, x₁, r₁⟩ => wpAny_Slice (wpAny_evalPart_some (wpAny_mono (he s₁ g₁ (X.ext x₁)) (fun u s₂ ⟨g₂, x₂, ⟨t, r₂⟩⟩ => wpAny_evalPart_none (wpAny_evalPart_none ?_)) fun _ _ f => f))) fun _ _ f => f)
  subst r₂
  obtain ⟨a, o, rfl, ho, vs, hO, q⟩ := r₁.mono x₂.gg
  obtain ⟨k, rfl⟩ := Int.eq_ofNat_of_zero_le h0
  exact slice_at (x₁.trans x₂) ho X hO q hz (.int _ _) .none (vs.drop k) (l.drop k) (by rw [slicePick_from']) (paired_drop k q) (hs _ _) (ht _)
end
end Mine

namespace Mine

inductive Out where
  | next (Γ : Gam) (μ : Mu)
  | ret (d : D)

def Post (F : Fm) : Out → Flow → Shared → Prop
  | .next Γ μ, fl, s => fl = .next ∧ ∃ g, St F Γ μ g s
  | .ret d, fl, s => ∃ v g, fl = .ret v ∧ Base F g s ∧ Rep F.c g v d
def Sx (F : Fm) (Γ : Gam) (μ : Mu) (st : Stmt) (o : Out) : Prop :=
  ∀ s g, St F Γ μ g s → wpAny F.M F.A (exec st F.env) (Post F o) (fun _ _ => False) s
def Bk (F : Fm) (Γ : Gam) (μ : Mu) (ss : List Stmt) (o : Out) : Prop :=
  ∀ s g, St F Γ μ g s → wpAny F.M F.A (execs ss F.env) (Post F o) (fun _ _ => False) s

def Sub (Γ' Γ : Gam) : Prop := ∀ x d, Γ'.lookup x = some d → Γ.lookup x = some d
theorem sub_nil {Γ : Gam} : Sub [] Γ := fun _ _ h => by cases h
theorem sub_cons {Γ' Γ : Gam} {x : Str} {d : D} (h : Γ.lookup x = some d) (t : Sub Γ' Γ) : Sub ((x, d) :: Γ') Γ := fun y e hy => by
  rw [List.lookup_cons] at hy
  split at hy
  · rename_i q
    have q : y = x := by simpa using q
    cases hy; rw [q]; exact h
  · exact t y e hy
theorem Sub.refl {Γ : Gam} : Sub Γ Γ := fun _ _ h => h

section
variable {F : Fm} {Γ Γ' : Gam} {μ μ' : Mu}

theorem St.weak {g : Fz} {s : Shared} (X : St F Γ μ g s) (h : Sub Γ' Γ) : St F Γ' μ g s :=
  ⟨X.base, X.ok, let ⟨m, L⟩ := X.loc; ⟨m, L.ns, L.gL, fun x d hx => L.loc x d (h x d hx), L.mu⟩⟩
theorem St.drop {g : Fz} {s : Shared} (X : St F Γ μ g s) : St F Γ none g s :=
  ⟨X.base, X.ok, let ⟨m, L⟩ := X.loc; ⟨m, L.ns, L.gL, L.loc, fun _ _ _ e => by cases e⟩⟩
theorem Base.freeze {g : Fz} {s : Shared} (B : Base F g s) {a : Addr} {o : Obj} (ho : s.heap.get? a = some o) (hn : g a = none) (hf : F.h₀.get? a = none) : Base F (addz g a o) s where
  keep := B.keep
  gg := fun b o' e => addz_of hn (B.gg b o' e)
  gs := fun b o' e => by
    unfold addz at e
    split at e
    · rename_i q; subst q; cases e; exact ho
    · exact B.gs b o' e
  gf := fun b o' e => by
    unfold addz at e
    split at e
    · rename_i q; subst q; exact .inr hf
    · exact B.gf b o' e
  sh := B.sh
theorem St.freeze {g : Fz} {s : Shared} {x : Str} {a : Addr} {d : D} (X : St F Γ (some (x, a, d)) g s) : ∃ g', St F ((x, d) :: Γ) none g' s := by
  obtain ⟨m, L⟩ := X.loc
  obtain ⟨h1, h2, h3, h4, h5, ⟨o, ho, r⟩, h6⟩ := L.mu _ _ _ rfl
  have up : ∀ b o', g b = some o' → addz g a o b = some o' := fun _ _ e => addz_of h3 e
  refine ⟨addz g a o, X.base.freeze ho h3 h5, X.ok, m, L.ns, ?_, fun y e hy => ?_, fun _ _ _ e => by cases e⟩
  · unfold addz; rw [if_neg (Ne.symm h4)]; exact L.gL
  · rw [List.lookup_cons] at hy
    split at hy
    · rename_i q
      have q : y = x := by simpa using q
      cases hy; subst q
      exact .inl ⟨h1, _, h2, RepO.rep addz_self (r.mono up) h6⟩
    · rcases L.loc y e hy with ⟨k, v, hv, r⟩ | ⟨k, ca, o', v, h1, h2, h3', r⟩
      · exact .inl ⟨k, v, hv, r.mono up⟩
      · exact .inr ⟨k, ca, o', v, h1, up _ _ h2, h3', r.mono up⟩

/-- an object that is not frozen, not the frame's, not the one at work: it may change -/
theorem St.alter {g : Fz} {s : Shared} {p : Addr} {h' : Heap} {t : Nat} (X : St F Γ μ g s) (hb : ∀ b o, b ≠ p → s.heap.get? b = some o → h'.get? b = some o) (hL : p ≠ F.env.locals) (hg : g p = none) (h0 : F.h₀.get? p = none)
    (hm : ∀ y a d, μ = some (y, a, d) → p ≠ a) : St F Γ μ g { s with heap := h', toks := t } := by
  obtain ⟨m, L⟩ := X.loc
  have gne : ∀ b o, g b = some o → b ≠ p := fun b o e q => by rw [q, hg] at e; cases e
  refine ⟨⟨fun b o e => hb b o (fun q => by rw [q, h0] at e; cases e) (X.base.keep b o e), X.base.gg, fun b o e => hb b o (gne b o e) (X.base.gs b o e), X.base.gf, X.base.sh⟩, X.ok, m, L.ns.at' fun o e => hb _ o (Ne.symm hL) e, L.gL, L.loc, fun y a d e => ?_⟩
  obtain ⟨h1, h2, h3, h4, h5, ⟨o, ho, r⟩, h6⟩ := L.mu y a d e
  exact ⟨h1, h2, h3, h4, h5, ⟨o, hb _ _ (Ne.symm (hm y a d e)) ho, r⟩, h6⟩

theorem scope_ok (X : FmOk F) : (F.env.scope.kind == .class || (F.env.scope.kind == .module && F.env.locals != F.env.globals)) = false := by rw [X.kind]; rfl

/-- a store of a name of the frame's -/
theorem St.stored {g : Fz} {s : Shared} {x : Str} {v : Value} {d : D} {Q : Unit → Shared → Prop} {E : Value → Shared → Prop} (X : St F Γ μ g s) (hk : F.env.kindOf x = some .local) (hx : ∀ y a d, μ = some (y, a, d) → x ≠ y) (r : Rep F.c g v d)
    (h : ∀ s', St F ((x, d) :: Γ) μ g s' → (∀ b o, b ≠ F.env.locals → s.heap.get? b = some o → s'.heap.get? b = some o) → Q () s') : wpAny F.M F.A (storeName F.env x v) Q E s := by
  obtain ⟨m, L⟩ := X.loc
  refine wpAny_storeName_local hk L.ns (fun h' hn hs => h _ ⟨⟨fun b o e => hs.extBut b o (fun q => by rw [q, X.ok.fresh] at e; cases e) (X.base.keep b o e), X.base.gg, fun b o e => hs.extBut b o (fun q => by rw [q, L.gL] at e; cases e) (X.base.gs b o e), X.base.gf, X.base.sh⟩, X.ok, _, hn, L.gL, fun y e hy => ?_, fun y a e q => ?_⟩ fun b o hb e => hs.extBut b o hb e) (scope_ok X.ok)
  · rw [List.lookup_cons] at hy
    split at hy
    · rename_i q
      have q : y = x := by simpa using q
      cases hy; subst q
      exact .inl ⟨hk, v, by simp, r⟩
    · rename_i q
      have q : y ≠ x := by simpa using q
      rcases L.loc y e hy with ⟨k, v, hv, r⟩ | z
      · exact .inl ⟨k, v, by rw [if_neg q]; exact hv, r⟩
      · exact .inr z
  · obtain ⟨h1, h2, h3, h4, h5, ⟨o, ho, r⟩, h6⟩ := L.mu y a e q
    exact ⟨h1, by rw [if_neg (Ne.symm (hx y a e q))]; exact h2, h3, h4, h5, ⟨o, hs.extBut _ _ h4 ho, r⟩, h6⟩
/-- a name comes to stand for a new object -/
theorem St.storedNew {g : Fz} {s : Shared} {x : Str} {a : Addr} {o : Obj} {d : D} {Q : Unit → Shared → Prop} {E : Value → Shared → Prop} (X : St F Γ none g s) (hk : F.env.kindOf x = some .local) (hx : Γ.lookup x = none)
    (ho : s.heap.get? a = some o) (r : RepO F.c g o d) (hg : g a = none) (hL : a ≠ F.env.locals) (h0 : F.h₀.get? a = none) (hm : (a == sysModules) = false)
    (h : ∀ s', St F Γ (some (x, a, d)) g s' → Q () s') : wpAny F.M F.A (storeName F.env x (.ref a)) Q E s := by
  obtain ⟨m, L⟩ := X.loc
  refine wpAny_storeName_local hk L.ns (fun h' hn hs => h _ ⟨⟨fun b o e => hs.extBut b o (fun q => by rw [q, X.ok.fresh] at e; cases e) (X.base.keep b o e), X.base.gg, fun b o e => hs.extBut b o (fun q => by rw [q, L.gL] at e; cases e) (X.base.gs b o e), X.base.gf, X.base.sh⟩, X.ok, _, hn, L.gL, fun y e hy => ?_, fun y a' e q => ?_⟩) (scope_ok X.ok)
  · have q : y ≠ x := fun q => by rw [q, hx] at hy; cases hy
    rcases L.loc y e hy with ⟨k, v, hv, r⟩ | z
    · exact .inl ⟨k, v, by rw [if_neg q]; exact hv, r⟩
    · exact .inr z
  · cases q
    exact ⟨hk, by simp, hg, hL, h0, ⟨o, hs.extBut _ _ hL ho, r⟩, hm⟩

theorem bk_nil (h : Sub Γ' Γ) : Bk F Γ μ [] (.next Γ' μ) := fun s g X => wpAny_execs_nil ⟨rfl, g, X.weak h⟩
theorem bk_cons {st : Stmt} {rest : List Stmt} {Γ₁ : Gam} {μ₁ : Mu} {o : Out} (h : Sx F Γ μ st (.next Γ₁ μ₁)) (t : Bk F Γ₁ μ₁ rest o) : Bk F Γ μ (st :: rest) o := fun s g X =>
  wpAny_execs_cons (wpAny_mono (h s g X) (fun fl s' ⟨e, g', X'⟩ => by subst e; exact t s' g' X') fun _ _ f => f)
theorem bk_ret {st : Stmt} {rest : List Stmt} {d : D} (h : Sx F Γ μ st (.ret d)) : Bk F Γ μ (st :: rest) (.ret d) := fun s g X =>
  wpAny_execs_cons (wpAny_mono (h s g X) (fun fl s' ⟨v, g', e, B, r⟩ => by subst e; exact ⟨v, g', rfl, B, r⟩) fun _ _ f => f)
theorem bk_weak {ss : List Stmt} {o : Out} (h : Sub Γ' Γ) (t : Bk F Γ' μ ss o) : Bk F Γ μ ss o := fun s g X => t s g (X.weak h)
theorem bk_freeze {ss : List Stmt} {o : Out} {x : Str} {a : Addr} {d : D} (t : Bk F ((x, d) :: Γ) none ss o) : Bk F Γ (some (x, a, d)) ss o := fun s g X => let ⟨g', X'⟩ := X.freeze; t s g' X'
theorem bk_drop {ss : List Stmt} {o : Out} (t : Bk F Γ none ss o) : Bk F Γ μ ss o := fun s g X => t s g X.drop

theorem sx_assign {x : Str} {e : Expr} {pp pos : Pos} {d : D} (he : Ev F Γ μ e d) (hk : F.env.kindOf x = some .local) (hx : ∀ y a d, μ = some (y, a, d) → x ≠ y) (hs : swapsWith e (some (.Name x pp)) pos.line F.env = pure false) :
    Sx F Γ μ (.Assign [.Name x pp] e pos) (.next ((x, d) :: Γ) μ) := fun s g X =>
  wpAny_Assign_Name (wpAny_mono (he s g X) (fun v s₁ ⟨g₁, x₁, r⟩ => (X.ext x₁).stored hk hx r fun s' X' _ => ⟨rfl, g₁, X'⟩) fun _ _ f => f) hs
theorem none_h0 {s s₁ : Shared} {g g₁ : Fz} (X : St F Γ μ g s) {a : Addr} (hf : s.heap.get? a = none) : F.h₀.get? a = none := by
  cases q : F.h₀.get? a with
  | none => rfl
  | some o => rw [X.base.keep _ _ q] at hf; cases hf
theorem ne_locals {s : Shared} {g : Fz} (X : St F Γ μ g s) {a : Addr} (hf : s.heap.get? a = none) : a ≠ F.env.locals := fun q => by
  obtain ⟨m, L⟩ := X.loc
  obtain ⟨o, _, _, ho, _⟩ := L.ns
  rw [q, ho] at hf; cases hf
theorem bk_new {x : Str} {e : Expr} {pp pos : Pos} {d : D} {rest : List Stmt} {o : Out} (he : Evn F Γ none e d) (hk : F.env.kindOf x = some .local) (hΓ : Sub Γ' Γ) (hx : Γ'.lookup x = none) (hs : swapsWith e (some (.Name x pp)) pos.line F.env = pure false)
    (t : ∀ a, Bk F Γ' (some (x, a, d)) rest o) : Bk F Γ none (.Assign [.Name x pp] e pos :: rest) o := fun s g X => by
  refine wpAny_execs_cons (wpAny_Assign_Name (wpAny_mono (he s g X) (fun v s₁ ⟨g₁, a, o, x₁, hv, hf, hn, ho, r, hm⟩ => ?_) fun _ _ f => f) hs)
  subst hv
  exact ((X.ext x₁).weak hΓ).storedNew hk hx ho r hn (ne_locals X hf) (none_h0 (s₁ := s) (g₁ := g) X hf) hm fun s' X' => t a s' g₁ X'

theorem sx_ret {e : Expr} {pos : Pos} {d : D} (he : Ev F Γ μ e d) : Sx F Γ μ (.Return (some e) pos) (.ret d) := fun s g X =>
  wpAny_Return_some (wpAny_mono (he s g X) (fun v s₁ ⟨g₁, x₁, r⟩ => ⟨v, g₁, rfl, X.base.ext x₁, r⟩) fun _ _ f => f)
theorem sx_if {t : Expr} {body orelse : List Stmt} {pos : Pos} {c : Bool} {o : Out} (ht : Et F Γ μ t c) (ha : c = true → Bk F Γ μ body o) (hb : c = false → Bk F Γ μ orelse o) : Sx F Γ μ (.If t body orelse pos) o := fun s g X =>
  wpAny_If (wpAny_mono (ht s g X) (fun r s' ⟨e, g', x⟩ => by
    subst e
    cases r with
    | true => exact ha rfl s' g' (X.ext x)
    | false => exact hb rfl s' g' (X.ext x)) fun _ _ f => f)
theorem sx_expr_none {e : Expr} {pos : Pos} (he : Ev F Γ μ e .none) (hi : interactive F.env = false) (hs : swapsWith e none pos.line F.env = pure false) : Sx F Γ μ (.Expr e pos) (.next Γ μ) := fun s g X =>
  wpAny_Expr (wpAny_mono (he s g X) (fun v s₁ ⟨g₁, x₁, r⟩ => by
    have r : v = .none := r
    subst r
    exact ⟨rfl, g₁, X.ext x₁⟩) fun _ _ f => f) hi hs

/-- a while, turn by turn -/
def Wl (F : Fm) (Γ : Gam) (μ : Mu) (t : Expr) (body : List Stmt) (o : Out) : Prop :=
  ∀ s g, St F Γ μ g s → ∀ R : Result → Shared → Prop, (∀ fl s', Post F o fl s' → R (.ok fl) s') → codeAny F.M F.A (.whileLoop t body [] F.env) R s
theorem sx_while {t : Expr} {body : List Stmt} {pos : Pos} {o : Out} (h : Wl F Γ μ t body o) : Sx F Γ μ (.While t body [] pos) o := fun s g X => wpAny_While (h s g X _ fun _ _ q => q)
end
end Mine

namespace Mine

abbrev Fm.at (F : Fm) (h : Heap) (g : Fz) (s : Shared) : Fm := { F with h₀ := h, g₀ := g, s₀ := s }
def muAddr (μ : Mu) : List Addr := match μ with | none => [] | some (_, a, _) => [a]

section
variable {F : Fm} {Γ Γ' : Gam} {μ μ' : Mu}

theorem notedBy_of {M : Model} {A : Around} {env : Env} {E : Value → Shared → Prop} (e : Value) (s : Shared) (h : False) : notedBy M A env E e s := h.elim

theorem wl_false {t : Expr} {body : List Stmt} (ht : Et F Γ μ t false) : Wl F Γ μ t body (.next Γ μ) := fun s g X R hR => by
  refine codeAny_of_tree ?_
  show wpAny _ F.A ((whileTurn t body [] F.env).onRaise (fun x => do noteFrame x F.env; theTreesLotGoes x)) _ _ s
  refine wpAny_noted ?_
  simp only [whileTurn]
  refine wpAny_bind (wpAny_mono (ht s g X) (fun b s₂ h₂ => ?_) fun _ _ f => f.elim)
  obtain ⟨rfl, g', x⟩ := h₂
  simp only [Bool.false_eq_true, if_false]
  exact wpAny_bind (wpAny_execs_nil (wpAny_pure (hR _ _ ⟨rfl, g', X.ext x⟩)))
theorem wl_true {t : Expr} {body : List Stmt} {Γ₁ : Gam} {μ₁ : Mu} {o : Out} (ht : Et F Γ μ t true) (hb : Bk F Γ μ body (.next Γ₁ μ₁)) (h : Wl F Γ₁ μ₁ t body o) : Wl F Γ μ t body o := fun s g X R hR => by
  refine codeAny_of_tree ?_
  show wpAny _ F.A ((whileTurn t body [] F.env).onRaise (fun x => do noteFrame x F.env; theTreesLotGoes x)) _ _ s
  refine wpAny_noted ?_
  simp only [whileTurn]
  refine wpAny_bind (wpAny_mono (ht s g X) (fun b s₂ h₂ => ?_) fun _ _ f => f.elim)
  obtain ⟨rfl, g', x⟩ := h₂
  simp only [if_true]
  refine wpAny_bind (wpAny_mono (hb s₂ g' (X.ext x)) (fun fl s₃ h₃ => ?_) fun _ _ f => f.elim)
  obtain ⟨rfl, g₃, X₃⟩ := h₃
  exact wpAny_pure ⟨rfl, h s₃ g₃ X₃ R hR⟩
theorem wl_weak {t : Expr} {body : List Stmt} {o : Out} (h : Sub Γ' Γ) (w : Wl F Γ' μ t body o) : Wl F Γ μ t body o := fun s g X => w s g (X.weak h)

theorem St.focus {g : Fz} {s : Shared} (X : St F Γ μ g s) {ls : List Addr} (hl : F.env.locals ∈ ls) (hm : ∀ x a d, μ = some (x, a, d) → a ∈ ls) (h0 : ∀ a ∈ ls, F.h₀.get? a = none) : St (F.at (hideAll s.heap ls) g s) Γ μ g s := by
  have k0 : ∀ b o, F.h₀.get? b = some o → (hideAll s.heap ls).get? b = some o := fun b o e => hideAll_get ls (X.base.keep b o e) fun hb => by rw [h0 b hb] at e; cases e
  obtain ⟨m, L⟩ := X.loc
  refine ⟨⟨fun b o e => of_hideAll _ e, fun _ _ e => e, X.base.gs, fun _ _ e => .inl e, rfl, rfl, rfl⟩, ⟨X.ok.kind, X.ok.glob, X.ok.blt, hideAll_none _ hl, X.ok.top.keeps k0, X.ok.room, X.ok.base.mono X.base.gg⟩, m, L.ns, L.gL, L.loc, fun x a d e => ?_⟩
  obtain ⟨h1, h2, h3, h4, h5, h6, h7⟩ := L.mu x a d e
  exact ⟨h1, h2, h3, h4, hideAll_none _ (hm x a d e), h6, h7⟩
theorem Base.unfocus {g g' : Fz} {s s' : Shared} (X : Base F g s) {ls : List Addr} (h0 : ∀ a ∈ ls, F.h₀.get? a = none) (Y : Base (F.at (hideAll s.heap ls) g s) g' s') : Base F g' s' := by
  have k0 : ∀ b o, F.h₀.get? b = some o → (hideAll s.heap ls).get? b = some o := fun b o e => hideAll_get ls (X.keep b o e) fun hb => by rw [h0 b hb] at e; cases e
  refine ⟨fun b o e => Y.keep b o (k0 b o e), fun a o e => Y.gg a o (X.gg a o e), Y.gs, fun a o e => ?_, Y.sh.1.trans X.sh.1, Y.sh.2.1.trans X.sh.2.1, Y.sh.2.2.trans X.sh.2.2⟩
  rcases Y.gf a o e with h | h
  · exact X.gf a o h
  · refine .inr ?_
    cases q : F.h₀.get? a with
    | none => rfl
    | some o' => have := k0 a o' q; rw [show (F.at (hideAll s.heap ls) g s).h₀.get? a = (hideAll s.heap ls).get? a from rfl] at h; rw [this] at h; cases h
theorem St.unfocus {g g' : Fz} {s s' : Shared} (X : St F Γ μ g s) {ls : List Addr} (h0 : ∀ a ∈ ls, F.h₀.get? a = none) (Y : St (F.at (hideAll s.heap ls) g s) Γ' μ' g' s') : St F Γ' μ' g' s' := by
  have k0 : ∀ b o, F.h₀.get? b = some o → (hideAll s.heap ls).get? b = some o := fun b o e => hideAll_get ls (X.base.keep b o e) fun hb => by rw [h0 b hb] at e; cases e
  obtain ⟨m, L⟩ := Y.loc
  refine ⟨X.base.unfocus h0 Y.base, X.ok, m, L.ns, L.gL, L.loc, fun x a d e => ?_⟩
  obtain ⟨h1, h2, h3, h4, h5, h6, h7⟩ := L.mu x a d e
  refine ⟨h1, h2, h3, h4, ?_, h6, h7⟩
  cases q : F.h₀.get? a with
  | none => rfl
  | some o' => have := k0 a o' q; rw [show (F.at (hideAll s.heap ls) g s).h₀.get? a = (hideAll s.heap ls).get? a from rfl] at h5; rw [this] at h5; cases h5

/-- what a loop needs of its iterator -/
structure Apart (F : Fm) (μ : Mu) (g : Fz) (s : Shared) (fp wr : List Addr) : Prop where
  sub : ∀ b ∈ wr, b ∈ fp
  live : ∀ b ∈ fp, ∃ o, s.heap.get? b = some o
  noL : ∀ b ∈ fp, b ≠ F.env.locals
  noM : ∀ b ∈ fp, ∀ y a d, μ = some (y, a, d) → b ≠ a
  thawed : ∀ b ∈ wr, g b = none
  fresh : ∀ b ∈ wr, F.h₀.get? b = none

structure Itr (F : Fm) (tgt : Expr) (it : Value) (names : List Str) (n : Nat) (bnd : Nat → Gam) (P : Nat → Heap → Prop) (fp wr : List Addr) (g₀ : Fz) : Prop where
  step : ∀ i s g Γ μ, i < n → St F Γ μ g s → P i s.heap → Apart F μ g s fp wr → (∀ a o, g₀ a = some o → g a = some o) → (∀ y a d, μ = some (y, a, d) → y ∉ names) →
    wpAny F.M F.A (pyNext it) (fun r s₁ => ∃ v, r = some v ∧ wpAny F.M F.A (letOwnedTupleGo tgt it v) (fun _ s₂ => wpAny F.M F.A (assign tgt F.env v)
      (fun _ s₃ => St F (bnd i ++ Γ) μ g s₃ ∧ P (i + 1) s₃.heap ∧ ∀ b ∈ fp, ∃ o, s₃.heap.get? b = some o) (fun _ _ => False) s₂) (fun _ _ => False) s₁) (fun _ _ => False) s
  done : ∀ s g Γ μ, St F Γ μ g s → P n s.heap → Apart F μ g s fp wr → wpAny F.M F.A (pyNext it) (fun r s₁ => r = none ∧ St F Γ μ g s₁) (fun _ _ => False) s
  frame : ∀ i h h', P i h → (∀ b ∈ fp, ∀ o, h.get? b = some o → h'.get? b = some o) → P i h'

def Src (F : Fm) (Γ : Gam) (μ : Mu) (iter tgt : Expr) (names : List Str) (n : Nat) (bnd : Nat → Gam) : Prop :=
  ∀ s g, St F Γ μ g s → wpAny F.M F.A (eval iter F.env) (fun x s₁ => wpAny F.M F.A (pyIter x) (fun it s₂ => ∃ g₂ P fp wr, Ext s g s₂ g₂ ∧ Itr F tgt it names n bnd P fp wr g₂ ∧ P 0 s₂.heap ∧ Apart F μ g₂ s₂ fp wr) (fun _ _ => False) s₁) (fun _ _ => False) s

theorem sx_for {iter tgt : Expr} {body : List Stmt} {pos : Pos} {names : List Str} {n : Nat} {bnd : Nat → Gam} (Γs : Nat → Gam) (μs : Nat → Mu) (hsrc : Src F Γ (μs 0) iter tgt names n bnd) (h0 : Sub (Γs 0) Γ)
    (hμ : ∀ i y a d, μs i = some (y, a, d) → y ∉ names)
    (hbody : ∀ i, i < n → ∀ h₀ g₀ s₀, Bk (F.at h₀ g₀ s₀) (bnd i ++ Γs i) (μs i) body (.next (Γs (i + 1)) (μs (i + 1)))) (hs : ∀ x, foldedSetIterable iter F.env x = pure x) :
    Sx F Γ (μs 0) (.For tgt iter body [] pos) (.next (Γs n) (μs n)) := fun s g X => by
  refine wpAny_For (wpAny_mono (hsrc s g X) (fun x s₁ h₁ => wpAny_mono h₁ (fun it s₂ h₂ => ?_) fun _ _ f => f.elim) fun _ _ f => f.elim) hs
  obtain ⟨g₂, P, fp, wr, x₂, I, hP, ap⟩ := h₂
  refine codeAny_forLoop_any (fun k s' => ∃ i g', k = n - i ∧ i ≤ n ∧ St F (Γs i) (μs i) g' s' ∧ P i s'.heap ∧ Apart F (μs i) g' s' fp wr ∧ ∀ a o, g₂ a = some o → g' a = some o) ?_ n
    ⟨0, g₂, rfl, Nat.zero_le _, (X.ext x₂).weak h0, hP, ap, fun _ _ e => e⟩
  rintro k s' ⟨i, g', rfl, hi, X', hP', ap', hg⟩
  by_cases hlt : i < n
  · refine wpAny_mono (I.step i s' g' _ _ hlt X' hP' ap' hg (hμ i)) (fun r s₃ h₃ => ?_) fun _ _ f => f.elim
    obtain ⟨v, rfl, h₃⟩ := h₃
    refine wpAny_mono h₃ (fun _ s₄ h₄ => wpAny_mono h₄ (fun _ s₅ ⟨X₅, hP₅, hl₅⟩ => ?_) fun _ _ f => f.elim) fun _ _ f => f.elim
    have hmu : ∀ x a d, μs i = some (x, a, d) → a ∈ F.env.locals :: muAddr (μs i) := fun x a d e => by rw [e]; simp [muAddr]
    have hz : ∀ a ∈ F.env.locals :: muAddr (μs i), F.h₀.get? a = none := fun a ha => by
      rcases List.mem_cons.mp ha with rfl | ha
      · exact X₅.ok.fresh
      · cases hm : μs i with
        | none => rw [hm] at ha; cases ha
        | some m =>
          obtain ⟨y, b, d⟩ := m
          rw [hm] at ha
          have ha : a = b := by simpa [muAddr] using ha
          subst ha
          obtain ⟨_, L⟩ := X₅.loc
          exact (L.mu _ _ _ hm).fresh
    have Y := X₅.focus (ls := F.env.locals :: muAddr (μs i)) (by simp) hmu hz
    refine wpAny_mono (hbody i hlt (hideAll s₅.heap (F.env.locals :: muAddr (μs i))) g' s₅ s₅ g' Y) (fun fl s₆ h₆ => ?_) fun _ _ f => f.elim
    obtain ⟨rfl, g₆, Y₆⟩ := h₆
    have old : ∀ b ∈ fp, ∀ o, s₅.heap.get? b = some o → (hideAll s₅.heap (F.env.locals :: muAddr (μs i))).get? b = some o := fun b hb o e => hideAll_get _ e fun hm => by
      rcases List.mem_cons.mp hm with q | q
      · exact ap'.noL b hb q
      · cases hq : μs i with
        | none => rw [hq] at q; cases q
        | some m =>
          obtain ⟨y, c, d⟩ := m
          rw [hq] at q
          exact ap'.noM b hb y c d hq (by simpa [muAddr] using q)
    have hk : ∀ b ∈ fp, ∀ o, s₅.heap.get? b = some o → s₆.heap.get? b = some o := fun b hb o e => Y₆.base.keep b o (old b hb o e)
    refine ⟨n - (i + 1), by omega, i + 1, g₆, rfl, hlt, X₅.unfocus hz Y₆, I.frame _ _ _ hP₅ hk, ⟨ap'.sub, fun b hb => let ⟨o, e⟩ := hl₅ b hb; ⟨o, hk b hb o e⟩, ap'.noL, fun b hb y a d e q => ?_, fun b hb => ?_, ap'.fresh⟩, fun a o e => Y₆.base.gg a o (hg a o e)⟩
    · obtain ⟨_, L⟩ := Y₆.loc
      have f := (L.mu y a d e).fresh
      obtain ⟨o, e'⟩ := hl₅ b hb
      have := old b hb o e'
      rw [q] at this
      rw [show (F.at (hideAll s₅.heap (F.env.locals :: muAddr (μs i))) g' s₅).h₀ = hideAll s₅.heap (F.env.locals :: muAddr (μs i)) from rfl, this] at f
      cases f
    · cases q : g₆ b with
      | none => rfl
      | some o' =>
        rcases Y₆.base.gf b o' q with h | h
        · have h : g' b = some o' := h
          rw [ap'.thawed b hb] at h; cases h
        · obtain ⟨o, e'⟩ := hl₅ b (ap'.sub b hb)
          have := old b (ap'.sub b hb) o e'
          rw [show (F.at (hideAll s₅.heap (F.env.locals :: muAddr (μs i))) g' s₅).h₀ = hideAll s₅.heap (F.env.locals :: muAddr (μs i)) from rfl, this] at h
          cases h
  · have hin : i = n := by omega
    subst hin
    refine wpAny_mono (I.done s' g' _ _ X' hP' ap') (fun r s₃ h₃ => ?_) fun _ _ f => f.elim
    obtain ⟨rfl, X₃⟩ := h₃
    exact wpAny_execs_nil ⟨rfl, g', X₃⟩

/-- an iterator with one name -/
theorem itr_walks {x : Str} {px : Pos} {it : Addr} {fp wr : List Addr} {n : Nat} {items : Nat → D} {P : Nat → Value → Prop} {S : Nat → Heap → Prop} {g₀ : Fz} (W : Walks F.c.prog F.c.w F.A it fp wr n P S) (hk : F.env.kindOf x = some .local)
    (hP : ∀ i v g, i < n → P i v → (∀ a o, g₀ a = some o → g a = some o) → Rep F.c g v (items i)) (hw : wr = [it]) (hlive : ∀ i h, S i h → ∃ o, h.get? it = some o) (ht : ∀ v, letOwnedTupleGo (.Name x px) (.ref it) v = pure ()) :
    Itr F (.Name x px) (.ref it) [x] n (fun i => [(x, items i)]) S fp wr g₀ where
  step := fun i s g Γ μ hi X hS ap hg hμ => by
    have hbI : it ∈ wr := by rw [hw]; simp
    refine W.item i s _ _ hi hS fun v h' tk hv hS' hk' => ⟨v, rfl, wpAny_of_eq (ht v) ?_⟩
    have X' : St F Γ μ g { s with heap := h', toks := tk } := X.alter (p := it) (fun b o hb e => hk' b o (by rw [hw]; simpa using hb) e) (ap.noL _ (ap.sub _ hbI)) (ap.thawed _ hbI) (ap.fresh _ hbI) fun y a d e => ap.noM _ (ap.sub _ hbI) y a d e
    refine wpAny_assign_Name (X'.stored hk (fun y a d e q => hμ y a d e (by simp [q])) (hP i v g hi hv hg) fun s' X'' hk'' => ⟨X'', ?_, fun b hb => ?_⟩)
    · exact W.frame _ _ _ hS' fun b hb o e => hk'' b o (ap.noL b hb) e
    · by_cases hw' : b ∈ wr
      · have : b = it := by rw [hw] at hw'; simpa using hw'
        subst this
        obtain ⟨o, q⟩ := hlive _ _ hS'
        exact ⟨o, hk'' _ _ (ap.noL _ hb) q⟩
      · obtain ⟨o, e⟩ := ap.live b hb
        exact ⟨o, hk'' _ _ (ap.noL _ hb) (hk' b o hw' e)⟩
  done := fun s g Γ μ X hS ap => by
    have hbI : it ∈ wr := by rw [hw]; simp
    exact W.done s _ _ hS fun h' tk hk' => ⟨rfl, X.alter (p := it) (fun b o hb e => hk' b o (by rw [hw]; simpa using hb) e) (ap.noL _ (ap.sub _ hbI)) (ap.thawed _ hbI) (ap.fresh _ hbI) fun y a d e => ap.noM _ (ap.sub _ hbI) y a d e⟩
  frame := W.frame
end
end Mine

namespace Mine

structure RawAt (F : Fm) (s : Shared) (g : Fz) (it : Value) (s₂ : Shared) (g₂ : Fz) (I : Addr) (fp : List Addr) (n : Nat) (items : Nat → D) (Pv : Nat → Value → Prop) (S : Nat → Heap → Prop) : Prop where
  is : it = .ref I
  ext : Ext s g s₂ g₂
  W : Walks F.c.prog F.c.w F.A I fp [I] n Pv S
  st : S 0 s₂.heap
  live : ∀ i h, S i h → ∃ o, h.get? I = some o
  rep : ∀ i v g', i < n → Pv i v → (∀ a o, g₂ a = some o → g' a = some o) → Rep F.c g' v (items i)
  alive : ∀ b ∈ fp, ∃ o, s₂.heap.get? b = some o
  apart : ∀ b ∈ fp, s.heap.get? b = none ∨ ∃ o, g₂ b = some o
  fresh : s.heap.get? I = none
  thaw : g₂ I = none
def Raw (F : Fm) (Γ : Gam) (μ : Mu) (iter : Expr) (n : Nat) (items : Nat → D) : Prop :=
  ∀ s g, St F Γ μ g s → wpAny F.M F.A (eval iter F.env) (fun x s₁ => wpAny F.M F.A (pyIter x) (fun it s₂ => ∃ g₂ I fp Pv S, RawAt F s g it s₂ g₂ I fp n items Pv S) (fun _ _ => False) s₁) (fun _ _ => False) s

section
variable {F : Fm} {Γ Γ' : Gam} {μ μ' : Mu}

theorem St.ne_mu {g : Fz} {s : Shared} (X : St F Γ μ g s) {b : Addr} (hf : s.heap.get? b = none) : ∀ y a d, μ = some (y, a, d) → b ≠ a := fun y a d e q => by
  obtain ⟨m, L⟩ := X.loc
  obtain ⟨o, ho, _⟩ := (L.mu y a d e).obj
  rw [q, ho] at hf; cases hf
theorem RawAt.ap {s s₂ : Shared} {g g₂ : Fz} {it : Value} {I : Addr} {fp : List Addr} {n : Nat} {items : Nat → D} {Pv : Nat → Value → Prop} {S : Nat → Heap → Prop} (r : RawAt F s g it s₂ g₂ I fp n items Pv S) (X : St F Γ μ g s) : Apart F μ g₂ s₂ fp [I] where
  sub := r.W.sub
  live := r.alive
  noL := fun b hb => by
    rcases r.apart b hb with h | ⟨o, h⟩
    · exact ne_locals X h
    · rintro rfl
      obtain ⟨m, L⟩ := (X.ext r.ext).loc
      rw [L.gL] at h; cases h
  noM := fun b hb y a d e => by
    rcases r.apart b hb with h | ⟨o, h⟩
    · exact X.ne_mu h y a d e
    · rintro rfl
      obtain ⟨m, L⟩ := (X.ext r.ext).loc
      rw [(L.mu y _ d e).off] at h; cases h
  thawed := fun b hb => by simp at hb; rw [hb]; exact r.thaw
  fresh := fun b hb => by simp at hb; rw [hb]; exact none_h0 (s₁ := s) (g₁ := g) X r.fresh
theorem src_name {iter : Expr} {n : Nat} {items : Nat → D} {x : Str} {px : Pos} (h : Raw F Γ μ iter n items) (hk : F.env.kindOf x = some .local) (ht : ∀ I v, letOwnedTupleGo (.Name x px) (.ref I) v = pure ()) :
    Src F Γ μ iter (.Name x px) [x] n (fun i => [(x, items i)]) := fun s g X =>
  wpAny_mono (h s g X) (fun xv s₁ h₁ => wpAny_mono h₁ (fun it s₂ ⟨g₂, I, fp, Pv, S, r⟩ => by
    obtain rfl := r.is
    exact ⟨g₂, S, fp, [I], r.ext, itr_walks r.W hk r.rep rfl r.live (ht I), r.st, r.ap X⟩) fun _ _ f => f) fun _ _ f => f

theorem raw_list {e : Expr} {l : List S} (h : Ev F Γ μ e (.lst l)) : Raw F Γ μ e l.length (fun i => .s (l.getD i (.int 0))) := fun s g X =>
  wpAny_mono (h s g X) (fun v s₁ ⟨g₁, x₁, r⟩ => by
    obtain ⟨a, o, rfl, ho, vs, ⟨hc, ⟨n, hd⟩, _⟩, q⟩ := r
    have hl : s₁.heap.IsList a vs.toArray := ⟨o, x₁.gs _ _ ho, hc, n, hd⟩
    have e1 := q.length
    have hne : a ≠ s₁.heap.objs.size := Nat.ne_of_lt (Heap.lt_size (x₁.gs _ _ ho))
    refine wpAny_pyIter_list hl ⟨g₁, s₁.heap.objs.size, [s₁.heap.objs.size, a], fun i v => vs.toArray[i]? = some v, fun i h => h.IsListIter s₁.heap.objs.size a i ∧ h.IsList a vs.toArray, rfl, push_ext x₁ _, ?_, ?_, ?_, ?_, ?_, ?_, none_at_end x₁, frozen_at_end x₁⟩
    · have := Walks.list (prog := F.c.prog) (w := F.c.w) X.ok.room.hnd s₁.heap.objs.size a hne vs.toArray
      rw [show vs.toArray.size = l.length by simp [e1]] at this
      exact this
    · exact ⟨⟨_, Heap.get?_push_size _ rfl, rfl, rfl⟩, hl.push _⟩
    · rintro i h ⟨⟨o, ho, _⟩, _⟩; exact ⟨o, ho⟩
    · intro i v g' hi hv hg
      obtain ⟨y, hy⟩ : ∃ y, l[i]? = some y := ⟨_, List.getElem?_eq_getElem hi⟩
      obtain ⟨v', hv', r⟩ := paired_get q hy
      have hv : vs[i]? = some v := by simpa using hv
      rw [hv'] at hv; cases hv
      rw [show l.getD i (.int 0) = y by simp [List.getD, hy]]
      exact r.mono hg
    · intro b hb
      rcases List.mem_cons.mp hb with rfl | hb
      · exact ⟨_, Heap.get?_push_size _ rfl⟩
      · simp at hb; subst hb; exact ⟨o, Heap.get?_push_of_some _ (x₁.gs _ _ ho)⟩
    · intro b hb
      rcases List.mem_cons.mp hb with rfl | hb
      · exact .inl (none_at_end x₁)
      · simp at hb; subst hb; exact .inr ⟨o, ho⟩) fun _ _ f => f

theorem raw_of_range {s s₁ : Shared} {g g₁ : Fz} (X : St F Γ μ g s) (x₁ : Ext s g s₁ g₁) {a b : Int} {t u v : Tok} {tk : Nat} (ha : 0 ≤ a) (hab : a ≤ b) (hb : b ≤ 2 ^ 30) {n : Nat} (hn : (n : Int) = b - a) :
    wpAny F.M F.A (pyIter (.ref s₁.heap.objs.size)) (fun it s₂ => ∃ g₂ I fp Pv S, RawAt F s g it s₂ g₂ I fp n (fun i => .i (a + i)) Pv S) (fun _ _ => False)
      { s₁ with heap := s₁.heap.push { cls := .type "range", data := .fields #[.int a t, .int b u, .int 1 v] }, toks := tk } := by
  have y : Ext s g { s₁ with heap := s₁.heap.push { cls := .type "range", data := .fields #[.int a t, .int b u, .int 1 v] }, toks := tk } g₁ := (push_ext x₁ _).toks tk
  refine wpAny_pyIter_range (s := { s₁ with heap := s₁.heap.push { cls := .type "range", data := .fields #[.int a t, .int b u, .int 1 v] }, toks := tk }) (IsRange.new _ _ _ _ _ _ _) (small_one (by omega) (by omega) (by omega) (by omega)) ?_
  generalize hH : s₁.heap.push { cls := .type "range", data := .fields #[.int a t, .int b u, .int 1 v] } = H at y ⊢
  refine ⟨g₁, H.objs.size, [H.objs.size], fun i v => ∃ t, v = .int (a + i * 1) t, fun i h => IsRangeIter h H.objs.size (a + (i : Nat) * 1) ((n : Int) - (i : Nat)) 1, rfl, ?_, Walks.range X.ok.room.hnd H.objs.size a 1 n, ?_, ?_, ?_, ?_, ?_, none_at_end y, frozen_at_end y⟩
  · exact push_ext y _
  · have e : Builtin.Range.rangeSize a b 1 = n := by
      rw [rangeSize_one]; split <;> omega
    have := Heap.get?_push_size H (o := { cls := .type "range_iterator", data := .fields #[rawInt a, rawInt (Builtin.Range.rangeSize a b 1), rawInt 1] }) rfl
    rw [e] at this
    show IsRangeIter _ _ _ _ _
    rw [e]
    simpa [IsRangeIter] using this
  · intro i h hS; exact ⟨_, hS⟩
  · rintro i v g' hi ⟨t, rfl⟩ hg
    exact ⟨t, by rw [Int.mul_one]⟩
  · intro b hb; simp at hb; subst hb; exact ⟨_, Heap.get?_push_size _ rfl⟩
  · intro b hb; simp at hb; subst hb; exact .inl (none_at_end y)

theorem raw_range1 {np pos : Pos} {e : Expr} {b : Int} {n : Nat} (he : Ev F Γ μ e (.i b)) (hn : (n : Int) = b) (hb : b ≤ 2 ^ 30)
    (hg : nsIn F.c.K mainGlobals "range" = some none) (hk : F.env.kindOf "range" = some .globalImplicit) (hs : starEach [e] F.env = [(false, eval e F.env)]) :
    Raw F Γ μ (.Call (.Name "range" np) [e] [] pos) n (fun i => .i i) := fun s g X => by
  refine Call_ (name_blt X hg boot_range (by decide) hk (by decide) (PyProof.Rows.callWith_type1 (wpAny_items_cons (wpAny_mono (he s g X) (fun v s₁ ⟨g₁, x₁, r⟩ => wpAny_items_nil ?_) fun _ _ f => f) hs) hs rfl))
  obtain ⟨t, rfl⟩ := r
  refine call_range_1 ?_
  have := raw_of_range (t := s₁.toks) (u := t) (v := s₁.toks + 1) (tk := s₁.toks + 1 + 1) X x₁ (Int.le_refl 0) (by omega) hb (n := n) (by omega)
  simpa using this
theorem raw_range2 {np pos : Pos} {e e' : Expr} {a b : Int} {n : Nat} (he : Ev F Γ μ e (.i a)) (he' : Ev F Γ μ e' (.i b)) (ha : 0 ≤ a) (hn : (n : Int) = b - a) (hb : b ≤ 2 ^ 30)
    (hg : nsIn F.c.K mainGlobals "range" = some none) (hk : F.env.kindOf "range" = some .globalImplicit) (hs : starEach [e, e'] F.env = [(false, eval e F.env), (false, eval e' F.env)]) :
    Raw F Γ μ (.Call (.Name "range" np) [e, e'] [] pos) n (fun i => .i (a + i)) := fun s g X => by
  have hs' : starEach [e'] F.env = [(false, eval e' F.env)] := by
    have : starEach [e, e'] F.env = starEach [e] F.env ++ starEach [e'] F.env := by cases e <;> rfl
    cases e' <;> first | rfl | (rw [this] at hs; cases e <;> simp [starEach] at hs)
  refine Call_ (name_blt X hg boot_range (by decide) hk (by decide) (PyProof.Rows.callWith_type1 (wpAny_items_cons (wpAny_mono (he s g X) (fun v s₁ ⟨g₁, x₁, r⟩ => wpAny_items_cons (wpAny_mono (he' s₁ g₁ (X.ext x₁)) (fun v' s₂ ⟨g₂, x₂, r'⟩ => wpAny_items_nil ?_) fun _ _ f => f) hs') fun _ _ f => f) (by rw [hs, hs'])) (by rw [hs, hs']) (by rw [hs']; rfl)))
  obtain ⟨t, rfl⟩ := r
  obtain ⟨t', rfl⟩ := r'
  refine call_range_2 ?_
  exact raw_of_range (t := t) (u := t') (v := s₂.toks) (tk := s₂.toks + 1) X (x₁.trans x₂) ha (by omega) hb hn
end
end Mine

namespace Mine

abbrev Fm.comp (F : Fm) (scope : Scope) (cl : List (Str × Addr)) (C : Addr) (h : Heap) (g : Fz) (s : Shared) : Fm := { c := F.c, k := F.k, env := compEnvC scope cl C F.env, A := F.A, h₀ := h, g₀ := g, s₀ := s }

/-- the names that the block has from around it -/
def Around? (F : Fm) (scope : Scope) (cl : List (Str × Addr)) (Γ Γc : Gam) : Prop :=
  ∀ y d, Γc.lookup y = some d → Γ.lookup y = some d ∧ F.env.kindOf y = some .cell ∧ (relabel scope F.env).names.lookup y = some .cell ∧ cl.lookup y = F.env.cells.lookup y
theorem around_nil {F : Fm} {scope : Scope} {cl : List (Str × Addr)} {Γ : Gam} : Around? F scope cl Γ [] := fun _ _ h => by cases h
theorem around_cons {F : Fm} {scope : Scope} {cl : List (Str × Addr)} {Γ Γc : Gam} {x : Str} {d : D} (h1 : Γ.lookup x = some d) (h2 : F.env.kindOf x = some .cell) (h3 : (relabel scope F.env).names.lookup x = some .cell) (h4 : cl.lookup x = F.env.cells.lookup x)
    (t : Around? F scope cl Γ Γc) : Around? F scope cl Γ ((x, d) :: Γc) := fun y e hy => by
  rw [List.lookup_cons] at hy
  split at hy
  · rename_i q
    have q : y = x := by simpa using q
    cases hy; subst q; exact ⟨h1, h2, h3, h4⟩
  · exact t y e hy

section
variable {F : Fm} {Γ Γ' : Gam} {μ μ' : Mu}

theorem comp_block {elt iter : Expr} {x : Str} {px : Pos} {scope : Scope} {cl : List (Str × Addr)} {pos : Pos} {Γc : Gam} {n : Nat} {items : Nat → D} {out : Nat → S} {s s₂ : Shared} {g g₂ : Fz} {it : Value} {I : Addr} {fp : List Addr} {Pv : Nat → Value → Prop} {P : Nat → Heap → Prop}
    {RR : Value → Addr → Result → Shared → Prop} (X : St F Γ μ g s) (r : RawAt F s g it s₂ g₂ I fp n items Pv P)
    (hcell : ∀ y ∈ scope.names, y.2 ≠ .cell) (hkind : scope.kind = .function) (hx : scope.names.lookup x = some .local) (hΓ : Around? F scope cl Γ Γc) (hz : n ≤ 1000)
    (helt : ∀ i, i < n → ∀ C h₀ g₀ s₀, Ev (F.comp scope cl C h₀ g₀ s₀) ((x, items i) :: Γc) none elt (.s (out i)))
    (ht : ∀ v, letOwnedTupleGo (.Name x px) (.ref I) v = pure ())
    (hRR : ∀ D C g' s' m o, Ext s g s' g' → s.heap.get? D = none → g' D = none → s'.heap.get? D = some o → RepO F.c g' o (.lst ((List.range n).map out)) → (D == sysModules) = false → s'.heap.Ns C m → s.heap.get? C = none → g' C = none → D ≠ C → RR (.ref D) C (.ok .next) s') :
    wpAny F.M F.A (newList []) (fun acc s₃ => wpAny F.M F.A (newFunctionEnv scope F.env.globals cl [] F.env.qual none .none (some F.env)) (fun cenv s₄ =>
      codeAny F.M F.A (.compStart (.ListComp elt [⟨.Name x px, iter, [], 0⟩] scope pos) 0 (.ref I) acc { cenv with scope := relabel scope F.env }) (RR acc cenv.locals) s₄) (fun _ _ => False) s₃) (fun _ _ => False) s₂ := by
  have x₂ := r.ext
  refine wpAny_newObj_type (wpAny_newFunctionEnv hcell (by intro y hy; simp at hy) (fun h₁ hns₁ hsb₁ => ?_) hkind)
  dsimp only at hns₁ hsb₁ ⊢
  have xD := push_ext x₂ { cls := .type "list", dict := none, data := .seq ([] : List Value).toArray }
  have nD := none_at_end x₂
  have fD := frozen_at_end x₂
  have mD := mods_at_end X x₂
  have gD : (s₂.heap.push { cls := .type "list", dict := none, data := .seq ([] : List Value).toArray }).get? s₂.heap.objs.size = some { cls := .type "list", dict := none, data := .seq ([] : List Value).toArray } := Heap.get?_push_size _ rfl
  have nC := none_at_end xD
  have fC := frozen_at_end xD
  generalize hD : s₂.heap.objs.size = D at *
  generalize hH2 : s₂.heap.push { cls := .type "list", dict := none, data := .seq ([] : List Value).toArray } = H2 at *
  dsimp only at hns₁ hsb₁ nC fC ⊢
  have hDC : D ≠ H2.objs.size := Nat.ne_of_lt (Heap.lt_size gD)
  have k₁ : ∀ b o, H2.get? b = some o → h₁.get? b = some o := fun b o e => hsb₁.extBut b o (Nat.ne_of_lt (Heap.lt_size e)) (Heap.get?_push_of_some _ e)
  have x₁ : Ext s g { s₂ with heap := h₁, toks := s₂.toks + ([] : List (Str × Value)).length } g₂ := xD.trans (Ext.heap (s := { s₂ with heap := H2 }) xD.gs k₁)
  generalize hC : H2.objs.size = C at *
  have hID : I ≠ D := fun q => by
    obtain ⟨o, e⟩ := r.alive I (r.W.sub _ (by simp))
    exact absurd (Heap.lt_size e) (by rw [q, ← hD]; exact Nat.lt_irrefl _)
  have fpD : ∀ b ∈ fp, b ≠ D := fun b hb q => by
    obtain ⟨o, e⟩ := r.alive b hb
    exact absurd (Heap.lt_size e) (by rw [q, ← hD]; exact Nat.lt_irrefl _)
  have fpC : ∀ b ∈ fp, b ≠ C := fun b hb q => by
    obtain ⟨o, e⟩ := r.alive b hb
    have e2 : H2.get? b = some o := by rw [← hH2]; exact Heap.get?_push_of_some _ e
    exact absurd (Heap.lt_size e2) (by rw [q, ← hC]; exact Nat.lt_irrefl _)
  have Y : St (F.comp scope cl C s.heap g s) Γc none g₂ { s₂ with heap := h₁, toks := s₂.toks + ([] : List (Str × Value)).length } := by
    refine ⟨⟨x₁.keep, x₁.gg, x₁.gs, x₁.gf, x₁.sh⟩, ⟨hkind, X.ok.glob, X.ok.blt, nC, X.top, X.ok.room, X.ok.base.mono X.base.gg⟩, _, hns₁, fC, fun y d hy => ?_, fun _ _ _ e => by cases e⟩
    obtain ⟨h1, h2, h3, h4⟩ := hΓ y d hy
    obtain ⟨m, L⟩ := X.loc
    rcases L.loc y d h1 with ⟨k, _⟩ | ⟨_, ca, o, v, q1, q2, q3, q4⟩
    · rw [h2] at k; cases k
    · exact .inr ⟨h3, ca, o, v, h4.trans q1, x₁.gg _ _ q2, q3, q4.mono x₁.gg⟩
  have loop : codeAny F.M F.A (.compLoop (.ListComp elt [⟨.Name x px, iter, [], 0⟩] scope pos) 0 (.ref I) (.ref D) (compEnvC scope cl C F.env)) (RR (.ref D) C) { s₂ with heap := h₁, toks := s₂.toks + ([] : List (Str × Value)).length } := by
    refine codeAny_compLoop_list (fun k s' => ∃ i g' ys, k = n - i ∧ i ≤ n ∧ St (F.comp scope cl C s.heap g s) Γc none g' s' ∧ P i s'.heap ∧ Apart (F.comp scope cl C s.heap g s) none g' s' fp [I] ∧ (∀ a o, g₂ a = some o → g' a = some o) ∧
        s'.heap.PlainList D ys ∧ g' D = none ∧ Paired (RepS g') ys.toList ((List.range i).map out)) ?_ n
      ⟨0, g₂, #[], rfl, Nat.zero_le _, Y, r.W.frame _ _ _ r.st (fun b _ o e => k₁ b o (by rw [← hH2]; exact Heap.get?_push_of_some _ e)), ⟨r.W.sub, fun b hb => ?_, fpC, fun _ _ _ _ _ e => (by cases e), fun b hb => ?_, fun b hb => ?_⟩, fun _ _ e => e, ⟨_, k₁ _ _ gD⟩, fD, .nil⟩ ht
    rotate_left
    · obtain ⟨o, e⟩ := r.alive b hb
      exact ⟨o, k₁ b o (by rw [← hH2]; exact Heap.get?_push_of_some _ e)⟩
    · simp at hb; rw [hb]; exact r.thaw
    · simp at hb; rw [hb]; exact r.fresh
    rintro k s' ⟨i, g', ys, rfl, hi, X', hP', ap', hg', hys, gD', hp⟩
    have hbI : I ∈ fp := r.W.sub _ (by simp)
    by_cases hlt : i < n
    · refine r.W.item i s' _ _ hlt hP' fun v h' tk hv hS' hk' => ?_
      have X₃ : St (F.comp scope cl C s.heap g s) Γc none g' { s' with heap := h', toks := tk } := X'.alter (p := I) (fun b o hb e => hk' b o (by simpa using hb) e) (ap'.noL _ hbI) (ap'.thawed _ (by simp)) r.fresh fun _ _ _ e => by cases e
      refine wpAny_assign_Name (X₃.stored (lookup_relabel_local hx) (fun _ _ _ e => by cases e) (r.rep i v g' hlt hv hg') fun s₄ X₄ hk₄ => ?_)
      refine wpAny_mono (helt i hlt C s.heap g s s₄ g' X₄) (fun y s₅ h₅ => ?_) fun _ _ f => f.elim
      obtain ⟨g₅, x₅, r₅⟩ := h₅
      have X₅ := (X₄.ext x₅).weak (Γ' := Γc) (fun y d hy => by
        rw [List.lookup_cons]
        split
        · rename_i q
          have q : y = x := by simpa using q
          obtain ⟨_, _, h3, _⟩ := hΓ y d hy
          rw [q] at h3
          have := lookup_relabel_local (env := F.env) hx
          rw [show (relabel scope F.env).names.lookup x = some .local from this] at h3
          cases h3
        · exact hy)
      have up : ∀ b o, b ≠ C → b ≠ I → s'.heap.get? b = some o → s₅.heap.get? b = some o := fun b o h1 h2 e => x₅.keep b o (hk₄ b o h1 (hk' b o (by simpa using h2) e))
      have hys₅ : s₅.heap.PlainList D ys := hys.at fun o e => up D o hDC (Ne.symm hID) e
      have gD₅ : g₅ D = none := by
        obtain ⟨nn, e⟩ := hys
        exact none_of_ext x₅ (hk₄ _ _ hDC (hk' D _ (by simpa using Ne.symm hID) e)) gD'
      have hlen : ys.toList.length = i := by have := hp.length; simpa using this
      refine wpAny_list_append_plain (hsz := by have : ys.size = i := by simpa using hlen
                                                rw [this]; exact Nat.le_trans (Nat.le_trans (Nat.le_of_lt hlt) hz) (by decide)) hys₅ fun h₆ hl₆ hs₆ => ?_
      have X₆ : St (F.comp scope cl C s.heap g s) Γc none g₅ { s₅ with heap := h₆ } := X₅.alter (p := D) (t := s₅.toks) (fun b o hb e => hs₆.extBut b o hb e) hDC gD₅ nD fun _ _ _ e => by cases e
      have hk6 : ∀ b ∈ fp, ∀ o, ({ s' with heap := h', toks := tk } : Shared).heap.get? b = some o → h₆.get? b = some o := fun b hb o e => hs₆.extBut b o (fpD b hb) (x₅.keep b o (hk₄ b o (fpC b hb) e))
      refine ⟨n - (i + 1), by omega, i + 1, g₅, ys.push y, rfl, hlt, X₆, r.W.frame _ _ _ hS' hk6, ⟨ap'.sub, fun b hb => ?_, ap'.noL, ap'.noM, fun b hb => ?_, ap'.fresh⟩, fun a o e => x₅.gg a o (hg' a o e), hl₆, gD₅, ?_⟩
      · by_cases q : b = I
        · subst q; obtain ⟨o, e⟩ := r.live _ _ hS'; exact ⟨o, hk6 _ hb o e⟩
        · obtain ⟨o, e⟩ := ap'.live b hb; exact ⟨o, hk6 b hb o (hk' b o (by simpa using q) e)⟩
      · have hb' : b = I := by simpa using hb
        subst hb'
        obtain ⟨o, e⟩ := r.live _ _ hS'
        exact none_of_ext x₅ (hk₄ _ o (fpC _ hbI) e) (ap'.thawed _ (by simp))
      · rw [Array.toList_push, List.range_succ, List.map_append]
        exact paired_app (RepSs.mono x₅.gg hp) (.cons r₅ .nil)
    · have hin : i = n := by omega
      subst hin
      refine r.W.done s' _ _ hP' fun h' tk hk' => ?_
      have X₃ : St (F.comp scope cl C s.heap g s) Γc none g' { s' with heap := h', toks := tk } := X'.alter (p := I) (fun b o hb e => hk' b o (by simpa using hb) e) (ap'.noL _ hbI) (ap'.thawed _ (by simp)) r.fresh fun _ _ _ e => by cases e
      obtain ⟨nn, e⟩ := hys
      obtain ⟨m, L⟩ := X₃.loc
      exact hRR D C g' _ m _ ⟨X₃.base.keep, X₃.base.gg, X₃.base.gs, X₃.base.gf, X₃.base.sh⟩ nD gD' (hk' D _ (by simpa using Ne.symm hID) e) ⟨ys.toList, ⟨rfl, ⟨nn, by simp⟩, rfl, rfl⟩, hp⟩ mD L.ns nC L.gL hDC
  exact codeAny_compStart_list loop (r.W.self 0 _ _ _ (r.W.frame _ _ _ r.st fun b _ o e => k₁ b o (by rw [← hH2]; exact Heap.get?_push_of_some _ e)) loop)

theorem evn_comp {elt iter : Expr} {x : Str} {px : Pos} {scope : Scope} {cl : List (Str × Addr)} {pos : Pos} (Γc : Gam) {n : Nat} {items : Nat → D} {out : Nat → S} (h : Raw F Γ μ iter n items)
    (helt : ∀ i, i < n → ∀ C h₀ g₀ s₀, Ev (F.comp scope cl C h₀ g₀ s₀) ((x, items i) :: Γc) none elt (.s (out i)))
    (hclos : closureFor scope F.env = pure cl) (hcell : ∀ y ∈ scope.names, y.2 ≠ .cell) (hkind : scope.kind = .function) (hnames : ∀ y ∈ scope.names, y.2 = .local → scope.names.lookup y.1 = some .local) (hx : scope.names.lookup x = some .local) (hΓ : Around? F scope cl Γ Γc) (hz : n ≤ 1000)
    (ht : ∀ I v, letOwnedTupleGo (.Name x px) (.ref I) v = pure ()) (hs : ∀ x, foldedSetIterable iter F.env x = pure x) :
    Evn F Γ μ (.ListComp elt [⟨.Name x px, iter, [], 0⟩] scope pos) (.lst ((List.range n).map out)) := fun s g X => by
  rw [eval_ListComp]
  refine wpAny_comprehension_free (use := none) rfl hs hclos hkind hnames (wpAny_mono (h s g X) (fun xv s₁ h₁ => wpAny_mono h₁ (fun it s₂ h₂ => ?_) fun _ _ f => f.elim) fun _ _ f => f.elim)
  obtain ⟨g₂, I, fp, Pv, P, r⟩ := h₂
  obtain rfl := r.is
  refine comp_block (RR := fun acc C => compPost F.M F.A (fun _ _ => False) none _ acc C) X r hcell hkind hx hΓ hz helt (ht I) ?_
  intro D C g' s' m o xx hD gD ho ro mD hn hC gC hDC
  refine ⟨m, hn, fun h' hs' => ⟨g', D, o, ?_, rfl, hD, gD, hs'.extBut _ _ hDC ho, ro, mD⟩⟩
  exact ⟨fun b o e => hs'.extBut b o (fun q => by rw [q, hC] at e; cases e) (xx.keep b o e), xx.gg, fun b o e => hs'.extBut b o (fun q => by rw [q, gC] at e; cases e) (xx.gs b o e), xx.gf, xx.sh⟩

/-- «y = [.. for x in ..]», by the swapped store -/
theorem sx_comp {elt iter : Expr} {x y : Str} {px py : Pos} {scope : Scope} {cl : List (Str × Addr)} {pos spos : Pos} (Γc : Gam) {n : Nat} {items : Nat → D} {out : Nat → S} (h : Raw F Γ μ iter n items)
    (helt : ∀ i, i < n → ∀ C h₀ g₀ s₀, Ev (F.comp scope cl C h₀ g₀ s₀) ((x, items i) :: Γc) none elt (.s (out i)))
    (hclos : closureFor scope F.env = pure cl) (hcell : ∀ y ∈ scope.names, y.2 ≠ .cell) (hkind : scope.kind = .function) (hnames : ∀ y ∈ scope.names, y.2 = .local → scope.names.lookup y.1 = some .local) (hx : scope.names.lookup x = some .local) (hΓ : Around? F scope cl Γ Γc) (hz : n ≤ 1000)
    (hy : F.env.kindOf y = some .local) (hμ : ∀ z a d, μ = some (z, a, d) → y ≠ z) (hsw : swapsWith (.ListComp elt [⟨.Name x px, iter, [], 0⟩] scope pos) (some (.Name y py)) spos.line F.env = pure true)
    (ht : ∀ I v, letOwnedTupleGo (.Name x px) (.ref I) v = pure ()) (hs : ∀ x, foldedSetIterable iter F.env x = pure x) :
    Sx F Γ μ (.Assign [.Name y py] (.ListComp elt [⟨.Name x px, iter, [], 0⟩] scope pos) spos) (.next ((y, .lst ((List.range n).map out)) :: Γ) μ) := fun s g X => by
  rw [exec_Assign_Name_used _ _ _ _ hsw]
  refine wpAny_bind (wpAny_standAt (wpAny_bind ?_))
  show wpAny _ F.A (do let _ ← comprehension (.ListComp elt [⟨.Name x px, iter, [], 0⟩] scope pos) scope F.env _ (newList []) false (eval iter F.env) (some (assign (.Name y py) F.env))) _ _ s
  refine wpAny_bind (wpAny_mono (wpAny_comprehension_free (use := some (assign (.Name y py) F.env)) (Q := fun _ s' => Post F (.next ((y, .lst ((List.range n).map out)) :: Γ) μ) .next s') rfl hs hclos hkind hnames
    (wpAny_mono (h s g X) (fun xv s₁ h₁ => wpAny_mono h₁ (fun it s₂ h₂ => ?_) fun _ _ f => f.elim) fun _ _ f => f.elim)) (fun _ s' hq => wpAny_pure (wpAny_pure hq)) fun _ _ e => e)
  obtain ⟨g₂, I, fp, Pv, P, r⟩ := h₂
  obtain rfl := r.is
  refine comp_block (RR := fun acc C => compPost F.M F.A (fun _ _ => False) (some (assign (.Name y py) F.env)) _ acc C) X r hcell hkind hx hΓ hz helt (ht I) ?_
  intro D C g' s' m o xx hD gD ho ro mD hn hC gC hDC
  have x' := xx.freeze ho gD hD
  have X' := X.ext x'
  refine wpAny_assign_Name (X'.stored hy hμ (RepO.rep addz_self (ro.mono fun _ _ e => addz_of gD e) mD) fun s'' X'' hk => ?_)
  refine ⟨m, hn.at' fun o e => hk C o (ne_locals X hC) e, fun h' hs' => ⟨rfl, _, X''.alter (p := C) (t := s''.toks) (fun b o hb e => hs'.extBut b o hb e) (ne_locals X hC) ?_ (none_h0 (s₁ := s) (g₁ := g) X hC) (X.ne_mu hC)⟩⟩
  unfold addz
  rw [if_neg (Ne.symm hDC)]
  exact gC
end
end Mine

namespace Mine

section
variable {F : Fm} {Γ Γ' : Gam} {μ μ' : Mu}

theorem St.alterS {g : Fz} {s : Shared} {ps : List Addr} {h' : Heap} {t : Nat} (X : St F Γ μ g s) (hb : ∀ b o, b ∉ ps → s.heap.get? b = some o → h'.get? b = some o) (hL : ∀ p ∈ ps, p ≠ F.env.locals) (hg : ∀ p ∈ ps, g p = none) (h0 : ∀ p ∈ ps, F.h₀.get? p = none)
    (hm : ∀ p ∈ ps, ∀ y a d, μ = some (y, a, d) → p ≠ a) : St F Γ μ g { s with heap := h', toks := t } := by
  obtain ⟨m, L⟩ := X.loc
  refine ⟨⟨fun b o e => hb b o (fun q => by rw [h0 b q] at e; cases e) (X.base.keep b o e), X.base.gg, fun b o e => hb b o (fun q => by rw [hg b q] at e; cases e) (X.base.gs b o e), X.base.gf, X.base.sh⟩, X.ok, m, L.ns.at' fun o e => hb _ o (fun q => hL _ q rfl) e, L.gL, L.loc, fun y a d e => ?_⟩
  obtain ⟨h1, h2, h3, h4, h5, ⟨o, ho, r⟩, h6⟩ := L.mu y a d e
  exact ⟨h1, h2, h3, h4, h5, ⟨o, hb _ _ (fun q => hm _ q y a d e rfl) ho, r⟩, h6⟩

theorem two_stores {x y : Str} {px py : Pos} {v u : Value} {d e : D} {g : Fz} {s : Shared} {Q : Unit → Shared → Prop} (X : St F Γ μ g s) (hx : F.env.kindOf x = some .local) (hy : F.env.kindOf y = some .local) (hμ : ∀ z a d, μ = some (z, a, d) → z ∉ [x, y]) (rv : Rep F.c g v d) (ru : Rep F.c g u e)
    (h : ∀ s', St F ((y, e) :: (x, d) :: Γ) μ g s' → (∀ b o, b ≠ F.env.locals → s.heap.get? b = some o → s'.heap.get? b = some o) → Q () s') :
    wpAny F.M F.A (do holding [u] (assign (.Name x px) F.env v); do holding [] (assign (.Name y py) F.env u); pure ()) Q (fun _ _ => False) s := by
  refine wpAny_bind (wpAny_holding (wpAny_assign_Name (X.stored hx (fun z a d e q => hμ z a d e (by simp [q])) rv fun s₁ X₁ k₁ => ?_)))
  refine wpAny_bind (wpAny_holding (wpAny_assign_Name (X₁.stored hy (fun z a d e q => hμ z a d e (by simp [q])) ru fun s₂ X₂ k₂ => wpAny_pure ?_)))
  exact h s₂ X₂ fun b o hb e => k₂ b o hb (k₁ b o hb e)

theorem src_enum {e : Expr} {np pos : Pos} {xi xv : Str} {pi pv pt : Pos} {k : Nat} {l : List S} (he : Ev F Γ μ e (.lst l)) (hz : l.length ≤ 1000)
    (hg : nsIn F.c.K mainGlobals "enumerate" = some none) (hk : F.env.kindOf "enumerate" = some .globalImplicit) (hs : starEach [e] F.env = [(false, eval e F.env)])
    (hxi : F.env.kindOf xi = some .local) (hxv : F.env.kindOf xv = some .local) :
    Src F Γ μ (.Call (.Name "enumerate" np) [e] [] pos) (.Tuple [.Name xi pi, .Name xv pv] k pt) [xi, xv] l.length (fun i => [(xv, .s (l.getD i (.int 0))), (xi, .i i)]) := fun s g X => by
  refine Call_ (name_blt X hg boot_enumerate (by decide) hk (by decide) (PyProof.Rows.callWith_type1 (wpAny_items_cons (wpAny_mono (he s g X) (fun v s₁ ⟨g₁, x₁, r⟩ => wpAny_items_nil ?_) fun _ _ f => f) hs) hs rfl))
  obtain ⟨a, ⟨cls, dct, data, slots⟩, rfl, ho, vs, ⟨hc, ⟨n, hd⟩, hdi, hsl⟩, q⟩ := r
  simp only at hc hd hdi hsl
  subst hc hd hdi hsl
  have hp : s₁.heap.get? a = some { cls := .type "list", dict := none, data := .seq vs.toArray n, slots := #[] } := x₁.gs _ _ ho
  have hlt : a < s₁.heap.objs.size := Heap.lt_size hp
  have e1 := q.length
  refine call_enumerate_1 hp fun h' hE hI hsz hkp => ?_
  have y : Ext s g { s₁ with heap := h' } g₁ := x₁.trans (Ext.heap (t := s₁.toks) x₁.gs hkp)
  refine wpAny_pyIter_enum hE ⟨g₁, fun i h => (∃ old, IsEnum h (s₁.heap.objs.size + 1) s₁.heap.objs.size i old) ∧ h.IsListIter s₁.heap.objs.size a i ∧ h.IsList a vs.toArray, [s₁.heap.objs.size + 1, s₁.heap.objs.size, a], [s₁.heap.objs.size + 1, s₁.heap.objs.size], y, ?_, ⟨⟨_, hE⟩, hI, ⟨_, hkp _ _ hp, rfl, _, rfl⟩⟩, ?_⟩
  · refine ⟨?_, ?_, ?_⟩
    · rintro i s' g' Γ' μ' hi X' ⟨⟨old, hE'⟩, hI', hl'⟩ ap hgg hμ
      obtain ⟨x, hx⟩ : ∃ x, vs.toArray[i]? = some x := ⟨vs[i]'(by omega), by simp⟩
      have heH : s₁.heap.objs.size + 1 < s'.heap.objs.size := Heap.lt_size hE'
      obtain ⟨oi, hoi, _⟩ := id hI'
      obtain ⟨ol, hol, _⟩ := id hl'
      have hiH : s₁.heap.objs.size < s'.heap.objs.size := Heap.lt_size hoi
      have hlH : a < s'.heap.objs.size := Heap.lt_size hol
      refine wpAny_pyNext_enum_item hE' hI' hl' hx (Nat.succ_ne_self _) fun h₁ heo hit₁ ht₁ hz₁ hk₁ => ⟨_, rfl, ?_⟩
      refine wpAny_letOwnedTupleGo_enum heo fun h₂ he₂ hs₂ => ?_
      replace hs₂ : Heap.SameBut (s₁.heap.objs.size + 1) h₁ h₂ := hs₂
      have ht₂ : h₂.IsTuple s'.heap.objs.size #[.int i s'.toks, x] := ⟨_, (hs₂.2 _ (Nat.ne_of_gt heH)).trans ht₁, rfl, _, rfl⟩
      have hz₂ : h₂.objs.size = s'.heap.objs.size + 1 := hs₂.1.trans hz₁
      refine wpAny_assign_Tuple X'.ok.room.hnd ht₂ rfl rfl fun h₃ hx₃ => ?_
      replace hx₃ : Heap.ExtBut h₂.objs.size h₂ h₃ := hx₃
      have old₃ : ∀ b o, b < s'.heap.objs.size → h₂.get? b = some o → h₃.get? b = some o := fun b o hb x => hx₃ b o (by rw [hz₂]; exact Nat.ne_of_lt (Nat.lt_succ_of_lt hb)) x
      have X₃ : St F Γ' μ' g' { s' with heap := h₃, toks := s'.toks + 1 } := X'.alterS (ps := [s₁.heap.objs.size + 1, s₁.heap.objs.size]) (fun b o hb e => by
          simp only [List.mem_cons, List.not_mem_nil, or_false, not_or] at hb
          exact old₃ b o (Heap.lt_size e) (hs₂.extBut b o hb.1 (hk₁ b o hb.1 hb.2 e))) (fun p hp => ap.noL p (ap.sub p hp)) ap.thawed ap.fresh (fun p hp => ap.noM p (ap.sub p hp))
      obtain ⟨yy, hyy⟩ : ∃ y, l[i]? = some y := ⟨_, List.getElem?_eq_getElem hi⟩
      obtain ⟨v', hv', r⟩ := paired_get q hyy
      have hxv' : vs[i]? = some x := by simpa using hx
      rw [hv'] at hxv'; cases hxv'
      refine two_stores (px := pi) (py := pv) (d := .i i) (e := .s (l.getD i (.int 0))) X₃ hxi hxv hμ ⟨_, rfl⟩ (by rw [show l.getD i (.int 0) = yy by simp [List.getD, hyy]]; exact r.mono hgg) fun s₄ X₄ k₄ => ?_
      have hE₄ := k₄ _ _ (ap.noL _ (by simp)) (old₃ _ _ heH he₂)
      have hI₂ := hit₁.extBut hs₂.extBut (Nat.ne_of_lt (Nat.lt_succ_self _))
      have hI₄ := hI₂.at fun o e => k₄ _ o (ap.noL _ (by simp)) (old₃ _ o hiH e)
      have hane : a ≠ s₁.heap.objs.size + 1 := Nat.ne_of_lt (Nat.lt_succ_of_lt hlt)
      have hl₄ := hl'.at fun o e => k₄ _ o (ap.noL _ (by simp)) (old₃ _ o hlH (hs₂.extBut _ o hane (hk₁ _ o hane (Nat.ne_of_lt hlt) e)))
      refine ⟨X₄, ⟨⟨_, by have : ((i + 1 : Nat) : Int) = (i : Int) + 1 := by push_cast; rfl
                          rw [this]; exact hE₄⟩, hI₄, hl₄⟩, fun b hb => ?_⟩
      simp only [List.mem_cons, List.not_mem_nil, or_false] at hb
      rcases hb with rfl | rfl | rfl
      · exact ⟨_, hE₄⟩
      · obtain ⟨o, ho, _⟩ := hI₄; exact ⟨o, ho⟩
      · obtain ⟨o, ho, _⟩ := hl₄; exact ⟨o, ho⟩
    · rintro s' g' Γ' μ' X' ⟨⟨old, hE'⟩, hI', hl'⟩ ap
      refine wpAny_pyNext_enum_end X'.ok.room.hnd hE' hI' hl' (by simp [e1]) fun h₁ he₁ => ⟨rfl, ?_⟩
      exact X'.alter (p := s₁.heap.objs.size) (t := s'.toks) (fun b o hb e => he₁ b o hb e) (ap.noL _ (by simp)) (ap.thawed _ (by simp)) (ap.fresh _ (by simp)) (ap.noM _ (by simp))
    · rintro i h h' ⟨⟨old, hE'⟩, hI', hl'⟩ hk
      exact ⟨⟨old, hk _ (by simp) _ hE'⟩, hI'.at fun o e => hk _ (by simp) o e, hl'.at fun o e => hk _ (by simp) o e⟩
  · have f1 : s.heap.get? (s₁.heap.objs.size) = none := none_at_end x₁
    have f2 : s.heap.get? (s₁.heap.objs.size + 1) = none := by
      cases q : s.heap.get? (s₁.heap.objs.size + 1) with
      | none => rfl
      | some o => exact absurd (Nat.lt_of_succ_lt (Heap.lt_size (x₁.keep _ _ q))) (Nat.lt_irrefl _)
    have t1 : g₁ (s₁.heap.objs.size) = none := frozen_at_end x₁
    have t2 : g₁ (s₁.heap.objs.size + 1) = none := by
      cases q : g₁ (s₁.heap.objs.size + 1) with
      | none => rfl
      | some o => exact absurd (Nat.lt_of_succ_lt (Heap.lt_size (x₁.gs _ _ q))) (Nat.lt_irrefl _)
    obtain ⟨m, L⟩ := (X.ext x₁).loc
    refine ⟨by simp, fun b hb => ?_, fun b hb => ?_, fun b hb y a' d e => ?_, fun b hb => ?_, fun b hb => ?_⟩
    all_goals simp only [List.mem_cons, List.not_mem_nil, or_false] at hb
    · rcases hb with rfl | rfl | rfl
      · exact ⟨_, hE⟩
      · obtain ⟨o, ho, _⟩ := hI; exact ⟨o, ho⟩
      · exact ⟨_, hkp _ _ hp⟩
    · rcases hb with rfl | rfl | rfl
      · exact ne_locals X f2
      · exact ne_locals X f1
      · rintro rfl; rw [L.gL] at ho; cases ho
    · rcases hb with rfl | rfl | rfl
      · exact X.ne_mu f2 y a' d e
      · exact X.ne_mu f1 y a' d e
      · rintro rfl; rw [(L.mu y _ d e).off] at ho; cases ho
    · rcases hb with rfl | rfl
      · exact t2
      · exact t1
    · rcases hb with rfl | rfl
      · exact none_h0 (s₁ := s) (g₁ := g) X f2
      · exact none_h0 (s₁ := s) (g₁ := g) X f1

theorem src_items {o : Expr} {apos cpos : Pos} {xk xv : Str} {pk pv pt : Pos} {k : Nat} {l : List (Int × Int)} (he : Ev F Γ μ o (.dic l))
    (hbase : attributeBase o "items" F.env (eval o F.env) = eval o F.env) (hline : (apos.endLine == cpos.line) = true)
    (hxk : F.env.kindOf xk = some .local) (hxv : F.env.kindOf xv = some .local) :
    Src F Γ μ (.Call (.Attribute o "items" apos) [] [] cpos) (.Tuple [.Name xk pk, .Name xv pv] k pt) [xk, xv] l.length (fun i => [(xv, .i (l.getD i (0, 0)).2), (xk, .i (l.getD i (0, 0)).1)]) := fun s g X => by
  refine wpAny_Call_method0_late hbase hline (wpAny_mono (he s g X) (fun v s₁ ⟨g₁, x₁, r⟩ => ?_) fun _ _ f => f)
  obtain ⟨a, od, rfl, ho, ⟨kvs, ⟨es, ep, hX⟩, q⟩, hm⟩ := r
  have hA : s₁.heap.DictAt (intKind F.c.prog F.c.w) a kvs ep := ⟨od, es, x₁.gs _ _ ho, hX⟩
  have hlt : a < s₁.heap.objs.size := hA.lt_size
  have e1 := q.length
  refine ⟨"dict", "dict.items", PySem.F.plainAttrs_dict, PySem.F.slot_dict_items, PySem.F.type_dict_items, hA.dictOf.typeIs, hA.dictOf.mapOf.noDict, ?_⟩
  refine method_meetsIn PySem.F.slot_dict_items PySem.F.entry_dict_items rfl (PySem.evalArgs_none ⟨rfl, hA.dictOf.typeIs, PySem.F.args_dict_items_1 _, _, meets_dict_items _ a hm, ⟨kvs, hA.dictOf⟩, ?_⟩)
  have y := push_ext x₁ { cls := .type "dict_items", data := .fields #[.ref a] }
  have hv : (s₁.heap.push { cls := .type "dict_items", data := .fields #[.ref a] }).IsItemsView s₁.heap.objs.size a := ⟨_, Heap.get?_push_size _ rfl, rfl, rfl⟩
  have hA₁ := hA.push { cls := .type "dict_items", data := .fields #[.ref a] }
  generalize hH : s₁.heap.push { cls := .type "dict_items", data := .fields #[.ref a] } = H at y hv hA₁ ⊢
  refine wpAny_pyIter_items (s := { s₁ with heap := H }) (knd := intKind F.c.prog F.c.w) hv hA₁ ?_
  have hltH : a < H.objs.size := hA₁.lt_size
  have z := push_ext y { cls := .type "dict_itemiterator", data := .fields #[.none, .bool false, .ref a, .int 0 0, .int kvs.length 0, .int ep 0, .none, .none] }
  have f1 : s.heap.get? H.objs.size = none := none_at_end y
  have t1 : g₁ H.objs.size = none := frozen_at_end y
  have hit : IsItemIter (H.push { cls := .type "dict_itemiterator", data := .fields #[.none, .bool false, .ref a, .int 0 0, .int kvs.length 0, .int ep 0, .none, .none] }) H.objs.size a 0 kvs.length ep .none .none := Heap.get?_push_size _ rfl
  refine ⟨g₁, fun i h => (∃ ok ov, IsItemIter h H.objs.size a i kvs.length ep ok ov) ∧ h.DictAt (intKind F.c.prog F.c.w) a kvs ep, [H.objs.size, a], [H.objs.size], z, ?_, ⟨⟨_, _, hit⟩, hA₁.push _⟩, ?_⟩
  · refine ⟨?_, ?_, ?_⟩
    · rintro i s' g' Γ' μ' hi X' ⟨⟨ok, ov, hI'⟩, hA'⟩ ap hgg hμ
      obtain ⟨⟨kk, vv⟩, hx⟩ : ∃ x, kvs[i]? = some x := ⟨kvs[i]'(by omega), List.getElem?_eq_getElem (by omega)⟩
      have hiH : H.objs.size < s'.heap.objs.size := Heap.lt_size hI'
      have hdH : a < s'.heap.objs.size := hA'.lt_size
      refine wpAny_pyNext_items_item hI' hA' hx fun key h₁ hkey heo ht₁ hz₁ hk₁ => ⟨_, rfl, ?_⟩
      refine wpAny_letOwnedTupleGo_items heo fun h₂ he₂ hs₂ => ?_
      replace hs₂ : Heap.SameBut H.objs.size h₁ h₂ := hs₂
      have ht₂ : h₂.IsTuple s'.heap.objs.size #[key, vv] := ⟨_, (hs₂.2 _ (Nat.ne_of_gt hiH)).trans ht₁, rfl, _, rfl⟩
      have hz₂ : h₂.objs.size = s'.heap.objs.size + 1 := hs₂.1.trans hz₁
      refine wpAny_assign_Tuple X'.ok.room.hnd ht₂ rfl rfl fun h₃ hx₃ => ?_
      replace hx₃ : Heap.ExtBut h₂.objs.size h₂ h₃ := hx₃
      have old₃ : ∀ b o, b < s'.heap.objs.size → h₂.get? b = some o → h₃.get? b = some o := fun b o hb x => hx₃ b o (by rw [hz₂]; exact Nat.ne_of_lt (Nat.lt_succ_of_lt hb)) x
      have X₃ : St F Γ' μ' g' { s' with heap := h₃ } := X'.alterS (ps := [H.objs.size]) (t := s'.toks) (fun b o hb e => by
          simp only [List.mem_cons, List.not_mem_nil, or_false] at hb
          exact old₃ b o (Heap.lt_size e) (hs₂.extBut b o hb (hk₁ b o hb e))) (fun p hp => ap.noL p (ap.sub p hp)) ap.thawed ap.fresh (fun p hp => ap.noM p (ap.sub p hp))
      obtain ⟨yy, hyy⟩ : ∃ y, l[i]? = some y := ⟨_, List.getElem?_eq_getElem hi⟩
      obtain ⟨kv, hkv, r⟩ := paired_get q hyy
      rw [hx] at hkv; cases hkv
      obtain ⟨r1, t2, r2⟩ := r
      obtain ⟨t3, hkey⟩ := Value.isInt_shape hkey
      have hD : l.getD i (0, 0) = yy := by simp [List.getD, hyy]
      have r1 : kk = yy.1 := r1
      have r2 : vv = .int yy.2 t2 := r2
      refine two_stores (px := pk) (py := pv) (d := .i (l.getD i (0, 0)).1) (e := .i (l.getD i (0, 0)).2) X₃ hxk hxv hμ ⟨t3, by rw [hkey, r1, hD]⟩ ⟨t2, by rw [r2, hD]⟩ fun s₄ X₄ k₄ => ?_
      have hI₄ := k₄ _ _ (ap.noL _ (by simp)) (old₃ _ _ hiH he₂)
      have hA₄ := hA'.at fun o e => k₄ _ o (ap.noL _ (by simp)) (old₃ _ o hdH (hs₂.extBut _ o (Nat.ne_of_lt hltH) (hk₁ _ o (Nat.ne_of_lt hltH) e)))
      refine ⟨X₄, ⟨⟨_, _, hI₄⟩, hA₄⟩, fun b hb => ?_⟩
      simp only [List.mem_cons, List.not_mem_nil, or_false] at hb
      rcases hb with rfl | rfl
      · exact ⟨_, hI₄⟩
      · obtain ⟨o, _, ho, _⟩ := hA₄; exact ⟨o, ho⟩
    · rintro s' g' Γ' μ' X' ⟨⟨ok, ov, hI'⟩, hA'⟩ ap
      rw [← e1] at hI'
      refine wpAny_pyNext_items_end X'.ok.room.hnd hI' hA' (by simp) fun h₁ he₁ => ⟨rfl, ?_⟩
      exact X'.alter (p := H.objs.size) (t := s'.toks) (fun b o hb e => he₁ b o hb e) (ap.noL _ (by simp)) (ap.thawed _ (by simp)) (ap.fresh _ (by simp)) (ap.noM _ (by simp))
    · rintro i h h' ⟨⟨ok, ov, hI'⟩, hA'⟩ hk
      exact ⟨⟨ok, ov, hk _ (by simp) _ hI'⟩, hA'.at fun o e => hk _ (by simp) o e⟩
  · obtain ⟨m, L⟩ := (X.ext x₁).loc
    refine ⟨by simp, fun b hb => ?_, fun b hb => ?_, fun b hb y a' d e => ?_, fun b hb => ?_, fun b hb => ?_⟩
    all_goals simp only [List.mem_cons, List.not_mem_nil, or_false] at hb
    · rcases hb with rfl | rfl
      · exact ⟨_, hit⟩
      · obtain ⟨o, _, ho, _⟩ := hA₁.push { cls := .type "dict_itemiterator", data := .fields #[.none, .bool false, .ref b, .int 0 0, .int kvs.length 0, .int ep 0, .none, .none] }; exact ⟨o, ho⟩
    · rcases hb with rfl | rfl
      · exact ne_locals X f1
      · rintro rfl; rw [L.gL] at ho; cases ho
    · rcases hb with rfl | rfl
      · exact X.ne_mu f1 y a' d e
      · rintro rfl; rw [(L.mu y _ d e).off] at ho; cases ho
    · subst hb; exact t1
    · subst hb; exact none_h0 (s₁ := s) (g₁ := g) X f1
end
end Mine

namespace Mine

def dput (l : List (Int × Int)) (k v : Int) : List (Int × Int) := if l.any (fun x => decide (x.1 = k)) then l.map (fun x => if x.1 = k then (x.1, v) else x) else l ++ [(k, v)]
def dget (l : List (Int × Int)) (k d : Int) : Int := match l.find? (fun x => decide (x.1 = k)) with | some x => x.2 | none => d

theorem any_ents {kvs : List (Int × Value)} {l : List (Int × Int)} (h : Paired EntIs kvs l) (k : Int) : kvs.any (fun kv => decide (kv.1 = k)) = l.any (fun x => decide (x.1 = k)) := by
  induction h with
  | nil => rfl
  | cons a r ih =>
    obtain ⟨e, _⟩ := a
    simp only [List.any_cons, ih, e]
theorem map_ents {kvs : List (Int × Value)} {l : List (Int × Int)} (h : Paired EntIs kvs l) (k v : Int) (t : Tok) : Paired EntIs (kvs.map fun kv => if kv.1 = k then (kv.1, .int v t) else kv) (l.map fun x => if x.1 = k then (x.1, v) else x) := by
  induction h with
  | nil => exact .nil
  | @cons x y r1 r2 a r ih =>
    obtain ⟨e, t', e'⟩ := a
    simp only [List.map_cons]
    refine .cons ?_ ih
    by_cases q : x.1 = k
    · rw [if_pos q, if_pos (by rw [← e]; exact q)]; exact ⟨e, t, rfl⟩
    · rw [if_neg q, if_neg (by rw [← e]; exact q)]; exact ⟨e, t', e'⟩
theorem stored_ents {kvs : List (Int × Value)} {l : List (Int × Int)} (h : Paired EntIs kvs l) (k v : Int) (t : Tok) : Paired EntIs (stored kvs k (.int v t)) (dput l k v) := by
  unfold stored dput
  rw [any_ents h k]
  split
  · exact map_ents h k v t
  · exact paired_app h (.cons ⟨rfl, t, rfl⟩ .nil)
theorem get_ents {kvs : List (Int × Value)} {l : List (Int × Int)} (h : Paired EntIs kvs l) (k d : Int) (t : Tok) : ∃ t', (valueAt kvs k).getD (.int d t) = .int (dget l k d) t' := by
  unfold valueAt dget
  induction h with
  | nil => exact ⟨t, rfl⟩
  | @cons x y r1 r2 a r ih =>
    obtain ⟨e, t', e'⟩ := a
    simp only [List.find?_cons]
    by_cases q : x.1 = k
    · have q' : y.1 = k := by rw [← e]; exact q
      simp only [q, q', decide_true]
      exact ⟨t', by simp [e']⟩
    · have q' : ¬ y.1 = k := by rw [← e]; exact q
      simp only [q, q', decide_false]
      exact ih

section
variable {F : Fm} {Γ Γ' : Gam} {μ μ' : Mu}

theorem method_get {o e₁ e₂ : Expr} {apos pos : Pos} {k d : Int} {l : List (Int × Int)} (s : Shared) (g : Fz) (X : St F Γ μ g s)
    (ho : wpAny F.M F.A (eval o F.env) (fun v s₁ => ∃ g₁ a od, Ext s g s₁ g₁ ∧ v = .ref a ∧ s₁.heap.get? a = some od ∧ RepO F.c g₁ od (.dic l) ∧ (a == sysModules) = false) (fun _ _ => False) s)
    (h₁ : Ev F Γ μ e₁ (.i k)) (h₂ : Ev F Γ μ e₂ (.i d)) (hbase : attributeBase o "get" F.env (eval o F.env) = eval o F.env) (hline : (apos.endLine == pos.line) = true)
    (ht : backTo pos (starEach [e₁, e₂] F.env) = [(false, eval e₁ F.env), (false, eval e₂ F.env)]) :
    wpAny F.M F.A (eval (.Call (.Attribute o "get" apos) [e₁, e₂] [] pos) F.env) (fun v s' => ∃ g', Ext s g s' g' ∧ Rep F.c g' v (.i (dget l k d))) (fun _ _ => False) s := by
  refine wpAny_Call_method2_late hbase hline ht (wpAny_mono ho (fun v s₁ h => ?_) fun _ _ f => f)
  obtain ⟨g₁, a, od, x₁, rfl, hod, ⟨kvs, hD, q⟩, hm⟩ := h
  have hA : s₁.heap.DictOf (intKind F.c.prog F.c.w) a kvs := Heap.dictOf_iff.mpr ⟨od, hod, hD⟩
  refine ⟨"dict", "dict.get", PySem.F.plainAttrs_dict, PySem.F.slot_dict_get, PySem.F.type_dict_get, hA.typeIs, hA.mapOf.noDict, ?_⟩
  refine wpAny_dict_get2 (knd := intKind F.c.prog F.c.w) hm (wpAny_mono (h₁ s₁ g₁ (X.ext x₁)) (fun key s₂ ⟨g₂, x₂, t, e⟩ => wpAny_mono (h₂ s₂ g₂ ((X.ext x₁).ext x₂)) (fun dflt s₃ ⟨g₃, x₃, t', e'⟩ => ?_) fun _ _ f => f) fun _ _ f => f)
  subst e e'
  refine ⟨k, _, intKind_is _ _ _ _, (hA.keep fun b o e => x₃.keep b o (x₂.keep b o e)).mapOf, ?_⟩
  obtain ⟨t'', e''⟩ := get_ents q k d t'
  rw [e'']
  exact ⟨g₃, ((x₁.trans x₂).trans x₃).toks _, t'', rfl⟩

theorem ev_get {o e₁ e₂ : Expr} {apos pos : Pos} {k d : Int} {l : List (Int × Int)} (ho : Ev F Γ μ o (.dic l)) (h₁ : Ev F Γ μ e₁ (.i k)) (h₂ : Ev F Γ μ e₂ (.i d)) (hbase : attributeBase o "get" F.env (eval o F.env) = eval o F.env)
    (hline : (apos.endLine == pos.line) = true) (ht : backTo pos (starEach [e₁, e₂] F.env) = [(false, eval e₁ F.env), (false, eval e₂ F.env)]) : Ev F Γ μ (.Call (.Attribute o "get" apos) [e₁, e₂] [] pos) (.i (dget l k d)) := fun s g X =>
  method_get s g X (wpAny_mono (ho s g X) (fun v s₁ ⟨g₁, x₁, a, od, e, h, r, ne⟩ => ⟨g₁, a, od, x₁, e, x₁.gs _ _ h, r, ne⟩) fun _ _ f => f) h₁ h₂ hbase hline ht
theorem ev_get_mu {x : Str} {a : Addr} {np : Pos} {e₁ e₂ : Expr} {apos pos : Pos} {k d : Int} {l : List (Int × Int)} (h₁ : Ev F Γ (some (x, a, .dic l)) e₁ (.i k)) (h₂ : Ev F Γ (some (x, a, .dic l)) e₂ (.i d)) (hbase : attributeBase (.Name x np) "get" F.env (eval (.Name x np) F.env) = eval (.Name x np) F.env)
    (hd : (x == ("__debug__" : Str)) = false) (hline : (apos.endLine == pos.line) = true) (ht : backTo pos (starEach [e₁, e₂] F.env) = [(false, eval e₁ F.env), (false, eval e₂ F.env)]) : Ev F Γ (some (x, a, .dic l)) (.Call (.Attribute (.Name x np) "get" apos) [e₁, e₂] [] pos) (.i (dget l k d)) := fun s g X => by
  obtain ⟨m, L⟩ := X.loc
  have M := L.mu _ _ _ rfl
  obtain ⟨o, ho, r⟩ := M.obj
  exact method_get s g X (wpAny_Name (wpAny_loadName_local X.ok.kind M.loc L.ns M.var ⟨g, a, o, X.refl, rfl, ho, r, M.mods⟩) hd) h₁ h₂ hbase hline ht

theorem dictOf_new (c : Cx) (h : Heap) : (h.push { cls := .type "dict", data := .dict #[] }).DictOf (intKind c.prog c.w) h.objs.size [] := Heap.DictOf.new h
theorem evn_dict0 {pos : Pos} : Evn F Γ μ (.Dict [] [] pos) (.dic []) := fun s g X => by
  refine wpAny_Dict_empty ?_
  have x := push_ext X.refl { cls := .type "dict", data := .dict #[] }
  obtain ⟨o, ho, hD⟩ := Heap.dictOf_iff.mp (dictOf_new F.c s.heap)
  exact ⟨g, _, o, x, rfl, none_at_end X.refl, frozen_at_end X.refl, ho, ⟨[], hD, .nil⟩, mods_at_end X X.refl⟩
/-- «{k: v}» -/
theorem evn_dict1 {ke ve : Expr} {pos : Pos} {k v : Int} (hk : Ev F Γ μ ke (.i k)) (hv : Ev F Γ μ ve (.i v)) : Evn F Γ μ (.Dict [some ke] [ve] pos) (.dic [(k, v)]) := fun s g X => by
  have x := push_ext X.refl { cls := .type "dict", data := .dict #[] }
  have e0 := dictOf_new F.c s.heap
  refine wpAny_Dict_walk (knd := intKind F.c.prog F.c.w) rfl rfl (by simp) (by simp) (pairTrees_cons_walk (wpAny_mono (hk _ g (X.ext x)) (fun kv s₁ ⟨g₁, x₁, t, e⟩ => wpAny_mono (hv s₁ g₁ ((X.ext x).ext x₁)) (fun vv s₂ ⟨g₂, x₂, t', e'⟩ => pairTrees_nil_walk ?_) fun _ _ f => f) fun _ _ f => f))
  subst e e'
  have xx := (x.trans x₁).trans x₂
  refine ⟨[(k, .int v t')], ⟨intKind_is _ _ _ _, rfl, trivial⟩, e0.keep (fun b o e => x₂.keep b o (x₁.keep b o e)), fun h' hD hs => ?_⟩
  obtain ⟨o, ho, hD⟩ := Heap.dictOf_iff.mp hD
  have nn := none_at_end X.refl
  have ff : g₂ s.heap.objs.size = none := by
    cases q : g₂ s.heap.objs.size with
    | none => rfl
    | some o' =>
      rcases xx.gf _ _ q with z | z
      · rw [frozen_at_end X.refl] at z; cases z
      · obtain ⟨o'', h''⟩ := Heap.dictOf_iff.mp e0
        have := (x₁.trans x₂).gf _ _ q
        rcases this with w | w
        · rw [frozen_at_end X.refl] at w; cases w
        · rw [h''.1] at w; cases w
  refine ⟨g₂, _, o, ⟨fun b o e => hs.extBut b o (Nat.ne_of_lt (Heap.lt_size e)) (xx.keep b o e), xx.gg, fun b o e => hs.extBut b o (fun q => by rw [q, ff] at e; cases e) (xx.gs b o e), xx.gf, xx.sh⟩, rfl, nn, ff, ho, ⟨_, hD, ?_⟩, mods_at_end X X.refl⟩
  exact .cons ⟨rfl, t', rfl⟩ .nil

/-- the object at work changes -/
theorem St.work {x : Str} {a : Addr} {d d' : D} {g : Fz} {s : Shared} {h' : Heap} {t : Nat} {o : Obj} (X : St F Γ (some (x, a, d)) g s) (hs : ∀ b o, b ≠ a → s.heap.get? b = some o → h'.get? b = some o) (ho : h'.get? a = some o) (r : RepO F.c g o d') :
    St F Γ (some (x, a, d')) g { s with heap := h', toks := t } := by
  obtain ⟨m, L⟩ := X.loc
  obtain ⟨h1, h2, h3, h4, h5, h6, h7⟩ := L.mu _ _ _ rfl
  have gne : ∀ b o, g b = some o → b ≠ a := fun b o e q => by rw [q, h3] at e; cases e
  refine ⟨⟨fun b o e => hs b o (fun q => by rw [q, h5] at e; cases e) (X.base.keep b o e), X.base.gg, fun b o e => hs b o (gne b o e) (X.base.gs b o e), X.base.gf, X.base.sh⟩, X.ok, m, L.ns.at' fun o e => hs _ o (Ne.symm h4) e, L.gL, L.loc, fun y b e q => ?_⟩
  cases q
  exact ⟨h1, h2, h3, h4, h5, ⟨o, ho, r⟩, h7⟩

/-- «d[k] = v» -/
theorem sx_dput {x : Str} {a : Addr} {np p pos : Pos} {ie ve : Expr} {k v : Int} {l : List (Int × Int)} (hv : Ev F Γ (some (x, a, .dic l)) ve (.i v)) (hi : Ev F Γ (some (x, a, .dic l)) ie (.i k)) (hd : (x == ("__debug__" : Str)) = false) (hz : l.length ≤ 1000)
    (hs : swapsWith ve (some (.Subscript (.Name x np) ie p)) pos.line F.env = pure false) : Sx F Γ (some (x, a, .dic l)) (.Assign [.Subscript (.Name x np) ie p] ve pos) (.next Γ (some (x, a, .dic (dput l k v)))) := fun s g X => by
  refine wpAny_Assign_Subscript (wpAny_mono (hv s g X) (fun v' s₁ ⟨g₁, x₁, t, e⟩ => ?_) fun _ _ f => f) hs
  have X₁ := X.ext x₁
  obtain ⟨m, L⟩ := X₁.loc
  have M := L.mu _ _ _ rfl
  refine wpAny_Name (wpAny_loadName_local X₁.ok.kind M.loc L.ns M.var (wpAny_mono (hi s₁ g₁ X₁) (fun k' s₂ ⟨g₂, x₂, t', e'⟩ => ?_) fun _ _ f => f)) hd
  subst e e'
  have X₂ := X₁.ext x₂
  obtain ⟨m₂, L₂⟩ := X₂.loc
  obtain ⟨o, ho, ⟨kvs, hD, q⟩⟩ := (L₂.mu _ _ _ rfl).obj
  have e1 := q.length
  refine wpAny_setItem_pairs (knd := intKind F.c.prog F.c.w) (intKind_is _ _ _ _) (Heap.dictOf_iff.mpr ⟨o, ho, hD⟩) (fun h' hD' hs' => ?_) (by rw [e1]; exact Nat.le_trans hz (by decide))
  obtain ⟨o', ho', hD'⟩ := Heap.dictOf_iff.mp hD'
  exact ⟨rfl, g₂, X₂.work (fun b o hb e => hs'.extBut b o hb e) ho' ⟨_, hD', stored_ents q k v t⟩⟩

theorem lst_get {g : Fz} {s : Shared} {a : Addr} {o : Obj} {l : List S} (ho : s.heap.get? a = some o) (r : RepO F.c g o (.lst l)) : ∃ vs : List Value, ∃ n, s.heap.get? a = some { cls := .type "list", data := .seq vs.toArray n } ∧ Paired (RepS g) vs l := by
  obtain ⟨vs, ⟨hc, ⟨n, hd⟩, h3, h4⟩, q⟩ := r
  obtain ⟨cls, dct, data, slots⟩ := o
  simp only at hc hd h3 h4
  subst hc hd h3 h4
  exact ⟨vs, n, ho, q⟩
theorem paired_set {α β : Type} {R : α → β → Prop} : ∀ {vs : List α} {l : List β} (k : Nat) {v : α} {x : β}, Paired R vs l → R v x → Paired R (vs.set k v) (l.set k x)
  | _, _, _, _, _, .nil, _ => .nil
  | _, _, 0, _, _, .cons a r, h => .cons h r
  | _, _, k + 1, _, _, .cons a r, h => .cons a (paired_set k r h)

theorem set_at {x : Str} {a : Addr} {l : List S} {k : Int} {t : Tok} {v : Value} {y : S} {g : Fz} {s : Shared} (X : St F Γ (some (x, a, .lst l)) g s) (h0 : 0 ≤ k) (h1 : k < l.length) (hz : l.length ≤ 1000) (r : RepS g v y) :
    wpAny F.M F.A (setItem (.ref a) (.int k t) v) (fun _ s' => Post F (.next Γ (some (x, a, .lst (l.set k.toNat y)))) .next s') (fun _ _ => False) s := by
  obtain ⟨m, L⟩ := X.loc
  obtain ⟨o, ho, ro⟩ := (L.mu _ _ _ rfl).obj
  obtain ⟨vs, n, hp, q⟩ := lst_get ho ro
  have e1 := q.length
  refine ki_setAt (n := n) hp h0 (by omega) (by simp [e1]; omega) ⟨rfl, g, ?_⟩
  have key := PySem.IsL.update hp (fun its => its.setIfInBounds k.toNat v)
  have e2 : vs.toArray.setIfInBounds k.toNat v = (vs.set k.toNat v).toArray := by simp
  rw [e2] at key
  generalize (if ((vs.set k.toNat v).toArray.size == vs.toArray.size) = true then n else n + 1) = n' at key
  exact X.work (t := s.toks) (fun b o hb e => (Heap.SameBut.update _ _ _).extBut b o hb e) key ⟨vs.set k.toNat v, ⟨rfl, ⟨n', rfl⟩, rfl, rfl⟩, paired_set _ q r⟩

/-- «xs[i] = v» -/
theorem sx_set {x : Str} {a : Addr} {np p pos : Pos} {ie ve : Expr} {k : Int} {y : S} {l : List S} (hv : Ev F Γ (some (x, a, .lst l)) ve (.s y)) (hi : Ev F Γ (some (x, a, .lst l)) ie (.i k)) (h0 : 0 ≤ k) (h1 : k < l.length) (hz : l.length ≤ 1000) (hd : (x == ("__debug__" : Str)) = false)
    (hs : swapsWith ve (some (.Subscript (.Name x np) ie p)) pos.line F.env = pure false) : Sx F Γ (some (x, a, .lst l)) (.Assign [.Subscript (.Name x np) ie p] ve pos) (.next Γ (some (x, a, .lst (l.set k.toNat y)))) := fun s g X => by
  refine wpAny_Assign_Subscript (wpAny_mono (hv s g X) (fun v' s₁ ⟨g₁, x₁, r⟩ => ?_) fun _ _ f => f) hs
  have X₁ := X.ext x₁
  obtain ⟨m, L⟩ := X₁.loc
  have M := L.mu _ _ _ rfl
  refine wpAny_Name (wpAny_loadName_local X₁.ok.kind M.loc L.ns M.var (wpAny_mono (hi s₁ g₁ X₁) (fun k' s₂ ⟨g₂, x₂, t', e'⟩ => ?_) fun _ _ f => f)) hd
  subst e'
  exact set_at (X₁.ext x₂) h0 h1 hz (RepS.mono x₂.gg r)

/-- «xs[i] += v», ints -/
theorem sx_aug {x : Str} {a : Addr} {np p pos : Pos} {ie ve : Expr} {k i j : Int} {l : List S} (hi : Ev F Γ (some (x, a, .lst l)) ie (.i k)) (hv : Ev F Γ (some (x, a, .lst l)) ve (.i j)) (h0 : 0 ≤ k) (h1 : k < l.length) (hx : l[k.toNat]? = some (.int i)) (hz : l.length ≤ 1000) (hd : (x == ("__debug__" : Str)) = false)
    (hu : ∀ ov iv new, augStore ie ov iv new = (do holding [new, ov, iv] (setItem ov iv new); release [new, ov, iv] []; pure .next)) :
    Sx F Γ (some (x, a, .lst l)) (.AugAssign (.Subscript (.Name x np) ie p) .Add ve pos) (.next Γ (some (x, a, .lst (l.set k.toNat (.int (i + j)))))) := fun s g X => by
  refine wpAny_AugAssign_SubscriptAny ?_ hu
  obtain ⟨m, L⟩ := X.loc
  have M := L.mu _ _ _ rfl
  refine wpAny_Name (wpAny_loadName_local X.ok.kind M.loc L.ns M.var (wpAny_mono (hi s g X) (fun k' s₂ ⟨g₂, x₂, t', e'⟩ => ?_) fun _ _ f => f)) hd
  subst e'
  have X₂ := X.ext x₂
  obtain ⟨m₂, L₂⟩ := X₂.loc
  obtain ⟨o, ho, ro⟩ := (L₂.mu _ _ _ rfl).obj
  obtain ⟨vs, n, hp, q⟩ := lst_get ho ro
  obtain ⟨u, hu, t, e⟩ := paired_get q hx
  subst e
  refine wpAny_getItem_list (items := vs.toArray) ⟨_, hp, rfl, _, rfl⟩ h0 (by omega) (by simpa using hu) (wpAny_mono (hv s₂ g₂ X₂) (fun v' s₃ ⟨g₃, x₃, t'', e''⟩ => ?_) fun _ _ f => f)
  subst e''
  refine PySem.AutoIntOps.iadd_0 ?_
  exact set_at (X₂.ext (x₃.toks _)) h0 h1 hz ⟨_, rfl⟩

/-- «xs.append(e)» -/
theorem sx_append {x : Str} {a : Addr} {np apos cpos pos : Pos} {e : Expr} {y : S} {l : List S} (he : Ev F Γ (some (x, a, .lst l)) e (.s y)) (hz : l.length ≤ 1000) (hd : (x == ("__debug__" : Str)) = false)
    (hbase : attributeBase (.Name x np) "append" F.env (eval (.Name x np) F.env) = eval (.Name x np) F.env) (hline : (apos.endLine == cpos.line) = true) (ht : backTo cpos (starEach [e] F.env) = [(false, eval e F.env)])
    (hi : interactive F.env = false) (hs : swapsWith (.Call (.Attribute (.Name x np) "append" apos) [e] [] cpos) none pos.line F.env = pure false) :
    Sx F Γ (some (x, a, .lst l)) (.Expr (.Call (.Attribute (.Name x np) "append" apos) [e] [] cpos) pos) (.next Γ (some (x, a, .lst (l ++ [y])))) := fun s g X => by
  refine wpAny_Expr ?_ hi hs
  obtain ⟨m, L⟩ := X.loc
  have M := L.mu _ _ _ rfl
  obtain ⟨o, ho, ro⟩ := M.obj
  obtain ⟨vs, n, hp, q⟩ := lst_get ho ro
  refine wpAny_Call_method1_late hbase hline ht (wpAny_Name (wpAny_loadName_local X.ok.kind M.loc L.ns M.var ?_) hd)
  refine ⟨"list", "list.append", PySem.F.plainAttrs_list, PySem.slot_list_append, PySem.F.type_list_append, ⟨_, hp, rfl⟩, fun b hb => (by cases hb; exact ⟨_, hp, rfl⟩), ?_⟩
  refine Calls.callWith_builtin rfl (Calls.evalArgs_plain (Calls.spliced_cons (wpAny_mono (he s g X) (fun v s₁ ⟨g₁, x₁, r⟩ => Calls.spliced_nil ?_) fun _ _ f => f)))
  have e1 := q.length
  have X₁ := X.ext x₁
  refine wpAny_list_append_plain (hsz := by simp [e1]; exact Nat.le_trans hz (by decide)) ⟨n, x₁.keep _ _ hp⟩ fun h' hl' hs' => ?_
  obtain ⟨n', hl'⟩ := hl'
  exact ⟨rfl, g₁, X₁.work (t := s₁.toks) (fun b o hb e => hs'.extBut b o hb e) hl' ⟨vs ++ [v], ⟨rfl, ⟨n', by simp⟩, rfl, rfl⟩, paired_app (RepSs.mono x₁.gg q) (.cons r .nil)⟩⟩
end
end Mine

namespace Mine

section
variable {F : Fm} {Γ Γ' : Gam} {μ μ' : Mu}

theorem Ev.cast {e : Expr} {d d' : D} (h : Ev F Γ μ e d) (q : d = d') : Ev F Γ μ e d' := q ▸ h
theorem Evn.cast {e : Expr} {d d' : D} (h : Evn F Γ μ e d) (q : d = d') : Evn F Γ μ e d' := q ▸ h

theorem unpack2 {v u : Value} {t : Addr} {s : Shared} {Q : List Value → Shared → Prop} (hh : F.A.handled = none) (ht : s.heap.IsTuple t #[v, u])
    (hQ : ∀ h', (∀ b o, s.heap.get? b = some o → h'.get? b = some o) → Q [v, u] { s with heap := h' }) : wpAny F.M F.A (unpackItems (.ref t) 2 none) Q (fun _ _ => False) s :=
  wpAny_unpackItems_tuple (items := #[v, u]) hh ht fun h' hx => hQ h' fun b o e => hx b o (Nat.ne_of_lt (Heap.lt_size e)) e

/-- «x, y = (e1, e2)» -/
theorem sx_tup2 {x y : Str} {px py tp pos vp : Pos} {k k' : Nat} {e₁ e₂ : Expr} {d₁ d₂ : D} (h₁ : Ev F Γ μ e₁ d₁) (h₂ : Ev F Γ μ e₂ d₂) (hx : F.env.kindOf x = some .local) (hy : F.env.kindOf y = some .local) (hμ : ∀ z a d, μ = some (z, a, d) → z ∉ [x, y])
    (hs1 : starEach [e₁, e₂] F.env = [(false, eval e₁ F.env), (false, eval e₂ F.env)]) (hs2 : starEach [e₂] F.env = [(false, eval e₂ F.env)])
    (hs : swapsWithSole [.Tuple [.Name x px, .Name y py] k tp] (.Tuple [e₁, e₂] k' vp) pos.line F.env = pure false)
    (hw : swappedStores [.Tuple [.Name x px, .Name y py] k tp] (.Tuple [e₁, e₂] k' vp) F.env = pure (some [x, y])) :
    Sx F Γ μ (.Assign [.Tuple [.Name x px, .Name y py] k tp] (.Tuple [e₁, e₂] k' vp) pos) (.next ((x, d₁) :: (y, d₂) :: Γ) μ) := fun s g X => by
  refine Assign_Tuple_swapped (wpAny_Tuple (wpAny_items_cons (wpAny_mono (h₁ s g X) (fun v s₁ ⟨g₁, x₁, r₁⟩ => wpAny_items_cons (wpAny_mono (h₂ s₁ g₁ (X.ext x₁)) (fun u s₂ ⟨g₂, x₂, r₂⟩ => wpAny_items_nil ?_) fun _ _ f => f) hs2) fun _ _ f => f) (by rw [hs1, hs2]))) hs hw
  refine ⟨by show 2 ≤ sizeLine; decide, ?_⟩
  have xx := x₁.trans x₂
  have xp := push_ext xx { cls := .type "tuple", data := .seq [v, u].toArray }
  refine unpack2 X.ok.room.hnd ⟨_, Heap.get?_push_size _ rfl, rfl, _, rfl⟩ fun h' hk => ?_
  have X' := X.ext (xp.trans (Ext.heap (t := s₂.toks) xp.gs hk))
  show wpAny F.M F.A (do holding [v] (bindName F.env y u); (do holding [] (bindName F.env x v); pure ())) _ _ _
  refine wpAny_bind (wpAny_holding (wpAny_bindName (X'.stored hy (fun z a d e q => hμ z a d e (by simp [q])) r₂ fun s₃ X₃ _ => ?_)))
  refine wpAny_bind (wpAny_holding (wpAny_bindName (X₃.stored hx (fun z a d e q => hμ z a d e (by simp [q])) (r₁.mono x₂.gg) fun s₄ X₄ _ => wpAny_pure ⟨rfl, g₂, X₄⟩)))

/-- «x, y = (new list, e2)» -/
theorem bk_tup2_new {x y : Str} {px py tp pos vp : Pos} {k k' : Nat} {e₁ e₂ : Expr} {d₁ d₂ : D} {rest : List Stmt} {o : Out} (h₁ : Evn F Γ none e₁ d₁) (h₂ : Ev F Γ none e₂ d₂) (hx : F.env.kindOf x = some .local) (hy : F.env.kindOf y = some .local)
    (hΓ : Γ.lookup x = none) (hxy : (x == y) = false)
    (hs1 : starEach [e₁, e₂] F.env = [(false, eval e₁ F.env), (false, eval e₂ F.env)]) (hs2 : starEach [e₂] F.env = [(false, eval e₂ F.env)])
    (hs : swapsWithSole [.Tuple [.Name x px, .Name y py] k tp] (.Tuple [e₁, e₂] k' vp) pos.line F.env = pure false)
    (hw : swappedStores [.Tuple [.Name x px, .Name y py] k tp] (.Tuple [e₁, e₂] k' vp) F.env = pure (some [x, y]))
    (t : ∀ a, Bk F ((y, d₂) :: Γ) (some (x, a, d₁)) rest o) :
    Bk F Γ none (.Assign [.Tuple [.Name x px, .Name y py] k tp] (.Tuple [e₁, e₂] k' vp) pos :: rest) o := fun s g X => by
  refine wpAny_execs_cons (Assign_Tuple_swapped (wpAny_Tuple (wpAny_items_cons (wpAny_mono (h₁ s g X) (fun v s₁ ⟨g₁, a, ob, x₁, hv, hf, hn, ho, r, hm⟩ => wpAny_items_cons (wpAny_mono (h₂ s₁ g₁ (X.ext x₁)) (fun u s₂ ⟨g₂, x₂, r₂⟩ => wpAny_items_nil ?_) fun _ _ f => f) hs2) fun _ _ f => f) (by rw [hs1, hs2]))) hs hw)
  subst hv
  refine ⟨by show 2 ≤ sizeLine; decide, ?_⟩
  have xx := x₁.trans x₂
  have xp := push_ext xx { cls := .type "tuple", data := .seq [.ref a, u].toArray }
  refine unpack2 X.ok.room.hnd ⟨_, Heap.get?_push_size _ rfl, rfl, _, rfl⟩ fun h' hk => ?_
  have x' := xp.trans (Ext.heap (t := s₂.toks) xp.gs hk)
  have X' := X.ext x'
  have ga := none_of_ext x₂ ho hn
  have ho' := hk _ _ (Heap.get?_push_of_some { cls := .type "tuple", data := .seq [.ref a, u].toArray } (x₂.keep _ _ ho))
  show wpAny F.M F.A (do holding [.ref a] (bindName F.env y u); (do holding [] (bindName F.env x (.ref a)); pure ())) _ _ _
  refine wpAny_bind (wpAny_holding (wpAny_bindName (X'.stored hy (fun z a d e => by cases e) r₂ fun s₃ X₃ k₃ => ?_)))
  refine wpAny_bind (wpAny_holding (wpAny_bindName (X₃.storedNew hx (by rw [List.lookup_cons, hxy]; exact hΓ) (k₃ _ _ (ne_locals X hf) ho') (r.mono x₂.gg) ga (ne_locals X hf) (none_h0 (s₁ := s) (g₁ := g) X hf) hm fun s₄ X₄ => wpAny_pure (t a s₄ g₂ X₄))))

/-- a name of the module that stands for a frozen pair -/
theorem ev_glob_rat {x : Str} {pos : Pos} {a : Addr} {o : Obj} {p q : Int} {t u : Tok} (ha : a = 49 ∨ a = 50) (e : nsIn F.c.K mainGlobals x = some (some (.ref a))) (hk : F.env.kindOf x = some .globalImplicit) (hd : (x == ("__debug__" : Str)) = false)
    (ho : F.c.K.lookup a = some o) (ht : TupO o #[.int p t, .int q u]) : Ev F Γ μ (.Name x pos) (.r p q) := fun s g X =>
  name_glob X e hk hd ⟨g, X.refl, a, o, t, u, rfl, X.base.gg _ _ (X.ok.base a o ha ho), ht⟩

end

/-- what a def of the text is -/
structure DefIs (fd : FuncData) (sc : Scope) (body : List Stmt) : Prop where
  scope : fd.scope = sc
  body : fd.body = .stmts body
  glob : fd.globals = mainGlobals
  blt : fd.builtins = builtinsNs
  clo : fd.closure = []
  kind : sc.kind = .function
  gen : sc.isGenerator = false
  co : sc.isCoroutine = false

abbrev frEnv (sc : Scope) (cs : List (Str × Addr)) (L : Addr) (q : Str) (f : Addr) (cd : Value) : Env := { scope := sc, locals := L, globals := mainGlobals, cells := cs, qual := q, func := some f, code := cd, frame := some L, builtins := builtinsNs }
abbrev frM (c : Cx) (k : Nat) (sc : Scope) (cs : List (Str × Addr)) (L : Addr) (q : Str) (f : Addr) (cd : Value) (A : Around) (h₀ : Heap) (g₀ : Fz) (s₀ : Shared) : Fm := { c := c, k := k, env := frEnv sc cs L q f cd, A := A, h₀ := h₀, g₀ := g₀, s₀ := s₀ }

theorem Room.deeper {A : Around} {k : Nat} {env : Env} (h : Room A (k + 1)) : Room (A.deeper env) k :=
  ⟨by have := h.depth; show A.depth + 1 + k < _; omega, by have := h.units; show A.units + 3 + 16 * k + 64 < _; omega, h.hnd⟩

/-- a frame without cells -/
theorem callD_plain {c : Cx} {K : Frag} {k : Nat} {f : Addr} {fd : FuncData} {sc : Scope} {body : List Stmt} {xs : List Str} {ds : List D} {d : D} {out : Out} {oc : Value} {od : Option Addr} {osl : Array (Option Value)} (hK : c.K = K)
    (ho : K.lookup f = some ⟨oc, od, .func fd, osl⟩) (hcode : codeIn K fd.code fd.qualname = true) (I : DefIs fd sc body) (hlen : xs.length = ds.length)
    (hbind : ∀ vs : List Value, vs.length = xs.length → bindArgs fd ⟨vs, []⟩ = pure (xs.zip vs)) (hnd : xs.Nodup)
    (hcell : ∀ x ∈ sc.names, x.2 ≠ .cell) (hloc : ∀ x ∈ xs, sc.names.lookup x = some .local)
    (h : ∀ L q cd A h₀ g₀ s₀, Bk (frM c k sc [] L q f cd A h₀ g₀ s₀) (xs.zip ds) none body out)
    (hout : out = .ret d ∨ (d = .none ∧ ∃ Γ μ, out = .next Γ μ)) :
    CallD c (k + 1) f ds d := fun A s g vs hR T gs hB hp => by
  subst hK
  obtain ⟨scope, fbody, glob, blt, clo, kind, gen, co⟩ := I
  obtain ⟨name, qualname, params, bd, scp, glb, closure, defaults, kwdefaults, doc, pyModule, annotations, code, closureTuple, builtins⟩ := fd
  simp only at scope fbody glob blt clo hcode
  subst scope fbody glob blt clo
  have hlv : vs.length = xs.length := by have := hp.length; omega
  have hzl : ∀ x ∈ xs.zip vs, scp.names.lookup x.1 = some .local := fun x hx => hloc x.1 (List.of_mem_zip hx).1
  refine wpAny_call (codeAny_call_def (body := body) (binds := xs.zip vs) (by have := hR.depth; omega) (T.K _ _ ho) rfl T.nolimit (codeRec_of T.K hcode) rfl (.of_eq (hbind vs hlv)) hcell hzl (fun h₁ hns hk => ?_) co gen kind)
  have hfr : s.heap.get? s.heap.objs.size = none := by
    cases q : s.heap.get? s.heap.objs.size with
    | none => rfl
    | some o => exact absurd (Heap.lt_size q) (Nat.lt_irrefl _)
  have hgL : g s.heap.objs.size = none := by
    cases q : g s.heap.objs.size with
    | none => rfl
    | some o => exact absurd (Heap.lt_size (gs _ _ q)) (Nat.lt_irrefl _)
  have X : St (frM c k scp [] s.heap.objs.size (qualname ++ ".<locals>.") f code (A.deeper (frEnv scp [] s.heap.objs.size (qualname ++ ".<locals>.") f code)) s.heap g s) (xs.zip ds) none g { s with heap := h₁, toks := s.toks + (xs.zip vs).length } := by
    refine ⟨⟨hk, fun _ _ e => e, fun a o e => hk _ _ (gs a o e), fun _ _ e => .inl e, rfl, rfl, rfl⟩, ⟨kind, rfl, rfl, hfr, T, hR.deeper, hB⟩, _, hns, hgL, fun x e hx => .inl ?_, fun _ _ _ e => by cases e⟩
    have key : ∀ (xs : List Str) (vs : List Value) (ds : List D), xs.Nodup → Paired (Rep c g) vs ds → (xs.zip ds).lookup x = some e → x ∈ xs ∧ ∃ v, (xs.zip vs).lookup x = some v ∧ Rep c g v e := by
      intro xs
      induction xs with
      | nil => intro vs ds _ _ h; simp at h
      | cons y xs ih =>
        intro vs ds hnd hp hx
        cases hp with
        | nil => simp at hx
        | @cons v e' vs ds r hp =>
          simp only [List.zip_cons_cons, List.lookup_cons] at hx ⊢
          by_cases q : (x == y) = true
          · have q' : x = y := by simpa using q
            simp only [q] at hx ⊢
            cases hx
            exact ⟨by simp [q'], v, rfl, r⟩
          · simp only [q] at hx ⊢
            obtain ⟨h1, h2⟩ := ih vs ds (List.nodup_cons.mp hnd).2 hp hx
            exact ⟨List.mem_cons_of_mem _ h1, h2⟩
    obtain ⟨h1, v, hv, r⟩ := key xs vs ds hnd hp hx
    refine ⟨hloc x h1, v, ?_, r⟩
    have rev : ∀ (l : List (Str × Value)), (l.map (·.1)).Nodup → ∀ x v, l.lookup x = some v → l.reverse.lookup x = some v := by
      intro l
      induction l with
      | nil => intro _ x v h; cases h
      | cons p l ih =>
        intro hn x v h
        obtain ⟨y, u⟩ := p
        rw [List.reverse_cons, List.lookup_append]
        rw [List.lookup_cons] at h
        split at h
        · rename_i q
          have q : x = y := by simpa using q
          subst q
          cases h
          have hno : l.reverse.lookup x = none := by
            have : x ∉ l.map (·.1) := (List.nodup_cons.mp hn).1
            rw [List.lookup_eq_none_iff]
            intro p hp
            have hp : p ∈ l := List.mem_reverse.mp hp
            refine bne_iff_ne.mpr fun q => ?_
            exact this (q ▸ List.mem_map_of_mem hp)
          rw [hno]
          simp
        · rw [ih (List.nodup_cons.mp hn).2 x v h]; rfl
    refine rev _ ?_ x v hv
    rw [show (xs.zip vs).map (·.1) = xs by rw [List.map_fst_zip]; omega]
    exact hnd
  refine wpAny_mono (h _ _ _ _ _ _ _ _ _ X) (fun fl s' hp => ?_) fun _ _ f => f.elim
  rcases hout with rfl | ⟨rfl, Γ', μ', rfl⟩
  · obtain ⟨v, g', rfl, B, r⟩ := hp
    exact ⟨g', ⟨B.keep, B.gg, B.gs, B.gf, B.sh⟩, r⟩
  · obtain ⟨rfl, g', Y⟩ := hp
    have B := Y.base
    exact ⟨g', ⟨B.keep, B.gg, B.gs, B.gf, B.sh⟩, rfl⟩
end Mine

namespace Mine

theorem bindC_out {kindOf : Str → Option NameKind} : ∀ (l : List (Str × Value)) (cm : Str → Option Value) (x : Str), x ∉ l.map (·.1) → bindC kindOf l cm x = cm x
  | [], cm, x, _ => rfl
  | (n, v) :: r, cm, x, h => by
    unfold bindC
    have h1 : x ≠ n := fun q => h (by simp [q])
    have h2 : x ∉ r.map (·.1) := fun q => h (List.mem_cons_of_mem _ q)
    rw [bindC_out r _ x h2]
    split
    · rfl
    · exact if_neg h1
theorem bindC_in {kindOf : Str → Option NameKind} : ∀ (l : List (Str × Value)) (cm : Str → Option Value) (x : Str) (v : Value), (l.map (·.1)).Nodup → (∀ p ∈ l, kindOf p.1 = some .cell) → l.lookup x = some v → bindC kindOf l cm x = some v
  | [], cm, x, v, _, _, h => by cases h
  | (n, u) :: r, cm, x, v, hn, hk, h => by
    have hkn : ¬ kindOf n = some .local := by rw [hk (n, u) (by simp)]; decide
    have hn' := List.nodup_cons.mp hn
    unfold bindC
    rw [if_neg hkn]
    rw [List.lookup_cons] at h
    split at h
    · rename_i q
      have q : x = n := by simpa using q
      subst q
      cases h
      rw [bindC_out r _ x hn'.1]
      simp
    · exact bindC_in r _ x v hn'.2 (fun p hp => hk p (List.mem_cons_of_mem _ hp)) h

theorem zip_lookup {c : Cx} {g : Fz} {x : Str} {e : D} : ∀ (xs : List Str) (vs : List Value) (ds : List D), Paired (Rep c g) vs ds → (xs.zip ds).lookup x = some e → x ∈ xs ∧ ∃ v, (xs.zip vs).lookup x = some v ∧ Rep c g v e
  | [], vs, ds, _, h => by simp at h
  | y :: xs, _, _, .nil, h => by simp at h
  | y :: xs, _, _, .cons (a := v) (b := e') r hp, hx => by
    simp only [List.zip_cons_cons, List.lookup_cons] at hx ⊢
    by_cases q : (x == y) = true
    · have q' : x = y := by simpa using q
      simp only [q] at hx ⊢
      cases hx
      exact ⟨by simp [q'], v, rfl, r⟩
    · simp only [q] at hx ⊢
      obtain ⟨h1, h2⟩ := zip_lookup xs _ _ hp hx
      exact ⟨List.mem_cons_of_mem _ h1, h2⟩

/-- a frame whose arguments are cells -/
theorem callD_cells {c : Cx} {K : Frag} {k : Nat} {f : Addr} {fd : FuncData} {sc : Scope} {body : List Stmt} {xs : List Str} {ds : List D} {d : D} {out : Out} {oc : Value} {od : Option Addr} {osl : Array (Option Value)} (hK : c.K = K)
    (ho : K.lookup f = some ⟨oc, od, .func fd, osl⟩) (hcode : codeIn K fd.code fd.qualname = true) (I : DefIs fd sc body) (hlen : xs.length = ds.length)
    (hbind : ∀ vs : List Value, vs.length = xs.length → bindArgs fd ⟨vs, []⟩ = pure (xs.zip vs)) (hnd : xs.Nodup)
    (hloc : ∀ x ∈ xs, sc.names.lookup x = some .cell)
    (h : ∀ L q cd A h₀ g₀ s₀, Bk (frM c k sc (cellsFrom (L + 1) sc.names []) L q f cd A h₀ g₀ s₀) (xs.zip ds) none body out)
    (hout : out = .ret d ∨ (d = .none ∧ ∃ Γ μ, out = .next Γ μ)) :
    CallD c (k + 1) f ds d := fun A s g vs hR T gs hB hp => by
  subst hK
  obtain ⟨scope, fbody, glob, blt, clo, kind, gen, co⟩ := I
  obtain ⟨name, qualname, params, bd, scp, glb, closure, defaults, kwdefaults, doc, pyModule, annotations, code, closureTuple, builtins⟩ := fd
  simp only at scope fbody glob blt clo hcode
  subst scope fbody glob blt clo
  have hlv : vs.length = xs.length := by have := hp.length; omega
  have hzl : ∀ x ∈ xs.zip vs, scp.names.lookup x.1 = some .cell := fun x hx => hloc x.1 (List.of_mem_zip hx).1
  refine wpAny_call (codeAny_call_cells (body := body) (binds := xs.zip vs) (by have := hR.depth; omega) (T.K _ _ ho) rfl T.nolimit (codeRec_of T.K hcode) rfl (hbind vs hlv) rfl (fun x hx => .inr ⟨hzl x hx, cellsFrom_some _ _ _ (.inl (hzl x hx))⟩) (fun s₁ hI => ?_) co gen kind)
  have hfr : s.heap.get? s.heap.objs.size = none := by
    cases q : s.heap.get? s.heap.objs.size with
    | none => rfl
    | some o => exact absurd (Heap.lt_size q) (Nat.lt_irrefl _)
  have hlt : ∀ b o, g b = some o → b < s.heap.objs.size := fun b o e => Heap.lt_size (gs b o e)
  obtain ⟨h₁, tk, hs1, hk⟩ := hI.done
  have hab : ∀ n b, (n, b) ∈ cellsFrom (s.heap.objs.size + 1) scp.names [] → s.heap.objs.size < b := hI.above
  let cs := cellsFrom (s.heap.objs.size + 1) scp.names []
  let g' : Fz := fun b => if b ∈ cs.map (·.2) then s₁.heap.get? b else g b
  have habs : ∀ b ∈ cs.map (·.2), s.heap.objs.size < b := fun b hb => by
    obtain ⟨p, hp, rfl⟩ := List.mem_map.mp hb
    exact hab p.1 p.2 hp
  have gup : ∀ b o, g b = some o → g' b = some o := fun b o e => by
    have : b ∉ cs.map (·.2) := fun hb => absurd (habs b hb) (Nat.not_lt.mpr (Nat.le_of_lt (hlt b o e)))
    show (if b ∈ cs.map (·.2) then s₁.heap.get? b else g b) = some o
    rw [if_neg this]; exact e
  have keep₁ : ∀ b o, s.heap.get? b = some o → s₁.heap.get? b = some o := hI.toInCall.keep
  have kd : ∀ x, Env.kindOf (frEnv scp cs s.heap.objs.size (qualname ++ ".<locals>.") f code) x = scp.names.lookup x := fun x => rfl
  have X : St (frM c k scp cs s.heap.objs.size (qualname ++ ".<locals>.") f code (A.deeper (frEnv scp cs s.heap.objs.size (qualname ++ ".<locals>.") f code)) s.heap g s) (xs.zip ds) none g' s₁ := by
    refine ⟨⟨keep₁, gup, fun b o e => ?_, fun b o e => ?_, ?_⟩, ⟨kind, rfl, rfl, hfr, T, hR.deeper, hB⟩, _, hI.toInCall.ns, ?_, fun x e hx => .inr ?_, fun _ _ _ e => by cases e⟩
    · have e : (if b ∈ cs.map (·.2) then s₁.heap.get? b else g b) = some o := e
      split at e
      · exact e
      · exact keep₁ _ _ (gs b o e)
    · have e : (if b ∈ cs.map (·.2) then s₁.heap.get? b else g b) = some o := e
      split at e
      · rename_i hb
        refine .inr ?_
        cases q : s.heap.get? b with
        | none => rfl
        | some o' => exact absurd (habs b hb) (Nat.not_lt.mpr (Nat.le_of_lt (Heap.lt_size q)))
      · exact .inl e
    · rw [hs1]; exact ⟨rfl, rfl, rfl⟩
    · show (if s.heap.objs.size ∈ cs.map (·.2) then s₁.heap.get? s.heap.objs.size else g s.heap.objs.size) = none
      rw [if_neg (fun hb => absurd (habs _ hb) (Nat.lt_irrefl _))]
      cases q : g s.heap.objs.size with
      | none => rfl
      | some o => exact absurd (hlt _ _ q) (Nat.lt_irrefl _)
    · obtain ⟨h1, v, hv, r⟩ := zip_lookup xs vs ds hp hx
      have hsome := cellsFrom_some (x := x) scp.names (s.heap.objs.size + 1) [] (.inl (hloc x h1))
      obtain ⟨ca, hca⟩ := Option.isSome_iff_exists.mp hsome
      have hb := hI.cell x ca hca
      rw [bindC_in (xs.zip vs) (fun _ => none) x v (by rw [List.map_fst_zip]; exact hnd; omega) ?hk hv] at hb
      case hk => exact fun p hp => hzl p hp
      obtain ⟨o, ho1, ho2⟩ := hb
      refine ⟨hloc x h1, ca, o, v, hca, ?_, ho2, r.mono gup⟩
      show (if ca ∈ cs.map (·.2) then s₁.heap.get? ca else g ca) = some o
      rw [if_pos (List.mem_map_of_mem (f := (·.2)) (mem_of_lookup hca))]
      exact ho1
  refine wpAny_mono (h _ _ _ _ _ _ _ _ _ X) (fun fl s' hp => ?_) fun _ _ f => f.elim
  rcases hout with rfl | ⟨rfl, Γ', μ', rfl⟩
  · obtain ⟨v, g'', rfl, B, r⟩ := hp
    exact ⟨g'', ⟨B.keep, B.gg, B.gs, B.gf, B.sh⟩, r⟩
  · obtain ⟨rfl, g'', Y⟩ := hp
    have B := Y.base
    exact ⟨g'', ⟨B.keep, B.gg, B.gs, B.gf, B.sh⟩, rfl⟩
end Mine

namespace Mine
theorem rev_lookup : ∀ (l : List (Str × Value)), (l.map (·.1)).Nodup → ∀ x v, l.lookup x = some v → l.reverse.lookup x = some v
  | [], _, x, v, h => by cases h
  | (y, u) :: l, hn, x, v, h => by
    rw [List.reverse_cons, List.lookup_append]
    rw [List.lookup_cons] at h
    split at h
    · rename_i q
      have q : x = y := by simpa using q
      subst q
      cases h
      have hno : l.reverse.lookup x = none := by
        have : x ∉ l.map (·.1) := (List.nodup_cons.mp hn).1
        rw [List.lookup_eq_none_iff]
        intro p hp
        have hp : p ∈ l := List.mem_reverse.mp hp
        refine bne_iff_ne.mpr fun q => ?_
        exact this (q ▸ List.mem_map_of_mem hp)
      rw [hno]
      simp
    · rw [rev_lookup l (List.nodup_cons.mp hn).2 x v h]; rfl

/-- a call of a def without cells, any end; the kept part is h0 -/
theorem call_frame {c : Cx} {K : Frag} {k : Nat} {f : Addr} {fd : FuncData} {sc : Scope} {body : List Stmt} {xs : List Str} {vs : List Value} {ds : List D} {oc : Value} {od : Option Addr} {osl : Array (Option Value)} {A : Around} {s : Shared} {g : Fz} {h0 : Heap} {Q : Value → Shared → Prop} (hK : c.K = K)
    (ho : K.lookup f = some ⟨oc, od, .func fd, osl⟩) (hcode : codeIn K fd.code fd.qualname = true) (I : DefIs fd sc body)
    (hbind : bindArgs fd ⟨vs, []⟩ = pure (xs.zip vs)) (hlen : vs.length = xs.length) (hnd : xs.Nodup) (hcell : ∀ x ∈ sc.names, x.2 ≠ .cell) (hloc : ∀ x ∈ xs, sc.names.lookup x = some .local)
    (hR : Room A (k + 1)) (T : TopOk c h0) (k0 : ∀ b o, h0.get? b = some o → s.heap.get? b = some o) (gs : ∀ a o, g a = some o → s.heap.get? a = some o) (hB : BaseZ c g) (hp : Paired (Rep c g) vs ds)
    (h : ∀ L q cd A' s₁, St (frM c k sc [] L q f cd A' h0 g s) (xs.zip ds) none g s₁ → (∀ b o, s.heap.get? b = some o → s₁.heap.get? b = some o) → s.heap.get? L = none → 
      wpAny (frM c k sc [] L q f cd A' h0 g s).M A' (execs body (frEnv sc [] L q f cd)) (fun fl s' => ∃ v, fl = .ret v ∧ Q v s') (fun _ _ => False) s₁) :
    wpAny (model c.prog c.w) A (call (.ref f) vs) Q (fun _ _ => False) s := by
  subst hK
  obtain ⟨scope, fbody, glob, blt, clo, kind, gen, co⟩ := I
  obtain ⟨name, qualname, params, bd, scp, glb, closure, defaults, kwdefaults, doc, pyModule, annotations, code, closureTuple, builtins⟩ := fd
  simp only at scope fbody glob blt clo hcode
  subst scope fbody glob blt clo
  have hzl : ∀ x ∈ xs.zip vs, scp.names.lookup x.1 = some .local := fun x hx => hloc x.1 (List.of_mem_zip hx).1
  have Ts := T.keeps k0
  refine wpAny_call (codeAny_call_def (body := body) (binds := xs.zip vs) (by have := hR.depth; omega) (Ts.K _ _ ho) rfl Ts.nolimit (codeRec_of Ts.K hcode) rfl (.of_eq hbind) hcell hzl (fun h₁ hns hk => ?_) co gen kind)
  have hfr : s.heap.get? s.heap.objs.size = none := by
    cases q : s.heap.get? s.heap.objs.size with
    | none => rfl
    | some o => exact absurd (Heap.lt_size q) (Nat.lt_irrefl _)
  have hgL : g s.heap.objs.size = none := by
    cases q : g s.heap.objs.size with
    | none => rfl
    | some o => exact absurd (Heap.lt_size (gs _ _ q)) (Nat.lt_irrefl _)
  have h0L : h0.get? s.heap.objs.size = none := by
    cases q : h0.get? s.heap.objs.size with
    | none => rfl
    | some o => rw [k0 _ _ q] at hfr; cases hfr
  have X : St (frM c k scp [] s.heap.objs.size (qualname ++ ".<locals>.") f code (A.deeper (frEnv scp [] s.heap.objs.size (qualname ++ ".<locals>.") f code)) h0 g s) (xs.zip ds) none g { s with heap := h₁, toks := s.toks + (xs.zip vs).length } := by
    refine ⟨⟨fun b o e => hk b o (k0 b o e), fun _ _ e => e, fun a o e => hk _ _ (gs a o e), fun _ _ e => .inl e, rfl, rfl, rfl⟩, ⟨kind, rfl, rfl, h0L, T, hR.deeper, hB⟩, _, hns, hgL, fun x e hx => .inl ?_, fun _ _ _ e => by cases e⟩
    obtain ⟨h1, v, hv, r⟩ := zip_lookup xs vs ds hp hx
    exact ⟨hloc x h1, v, rev_lookup _ (by rw [List.map_fst_zip]; exact hnd; omega) x v hv, r⟩
  refine wpAny_mono (h _ _ _ _ _ X hk hfr) (fun fl s' hp => ?_) fun _ _ f => f.elim
  obtain ⟨v, rfl, hq⟩ := hp
  exact hq
end Mine

namespace Mine
open_top hd for PySem.Challenge.rw_xm0125_01
end Mine

namespace Mine
structure CxOk (c : Cx) : Prop where
  K : c.K = hd.heap_39 c.w.params

section
variable {c : Cx}
theorem n_gcd (hc : CxOk c) : nsIn c.K mainGlobals "gcd" = some (some (.ref 41)) := by rw [hc.K]; kernel_rfl
theorem k_gcd (hc : CxOk c) : keepIn c.K (.ref 41) = true := by rw [hc.K]; kernel_rfl
theorem n_rat (hc : CxOk c) : nsIn c.K mainGlobals "rat" = some (some (.ref 57)) := by rw [hc.K]; kernel_rfl
theorem k_rat (hc : CxOk c) : keepIn c.K (.ref 57) = true := by rw [hc.K]; kernel_rfl
theorem n_radd (hc : CxOk c) : nsIn c.K mainGlobals "radd" = some (some (.ref 64)) := by rw [hc.K]; kernel_rfl
theorem k_radd (hc : CxOk c) : keepIn c.K (.ref 64) = true := by rw [hc.K]; kernel_rfl
theorem n_rsub (hc : CxOk c) : nsIn c.K mainGlobals "rsub" = some (some (.ref 71)) := by rw [hc.K]; kernel_rfl
theorem k_rsub (hc : CxOk c) : keepIn c.K (.ref 71) = true := by rw [hc.K]; kernel_rfl
theorem n_rmul (hc : CxOk c) : nsIn c.K mainGlobals "rmul" = some (some (.ref 78)) := by rw [hc.K]; kernel_rfl
theorem k_rmul (hc : CxOk c) : keepIn c.K (.ref 78) = true := by rw [hc.K]; kernel_rfl
theorem n_rdiv (hc : CxOk c) : nsIn c.K mainGlobals "rdiv" = some (some (.ref 85)) := by rw [hc.K]; kernel_rfl
theorem k_rdiv (hc : CxOk c) : keepIn c.K (.ref 85) = true := by rw [hc.K]; kernel_rfl
theorem n_is_vast (hc : CxOk c) : nsIn c.K mainGlobals "is_vast" = some (some (.ref 92)) := by rw [hc.K]; kernel_rfl
theorem k_is_vast (hc : CxOk c) : keepIn c.K (.ref 92) = true := by rw [hc.K]; kernel_rfl
theorem n_rcompare (hc : CxOk c) : nsIn c.K mainGlobals "rcompare" = some (some (.ref 99)) := by rw [hc.K]; kernel_rfl
theorem k_rcompare (hc : CxOk c) : keepIn c.K (.ref 99) = true := by rw [hc.K]; kernel_rfl
theorem n_cut (hc : CxOk c) : nsIn c.K mainGlobals "cut" = some (some (.ref 106)) := by rw [hc.K]; kernel_rfl
theorem k_cut (hc : CxOk c) : keepIn c.K (.ref 106) = true := by rw [hc.K]; kernel_rfl
theorem n_let (hc : CxOk c) : nsIn c.K mainGlobals "let" = some (some (.ref 113)) := by rw [hc.K]; kernel_rfl
theorem k_let (hc : CxOk c) : keepIn c.K (.ref 113) = true := by rw [hc.K]; kernel_rfl
theorem n_mixed (hc : CxOk c) : nsIn c.K mainGlobals "mixed" = some (some (.ref 120)) := by rw [hc.K]; kernel_rfl
theorem k_mixed (hc : CxOk c) : keepIn c.K (.ref 120) = true := by rw [hc.K]; kernel_rfl
theorem n_smul (hc : CxOk c) : nsIn c.K mainGlobals "smul" = some (some (.ref 125)) := by rw [hc.K]; kernel_rfl
theorem k_smul (hc : CxOk c) : keepIn c.K (.ref 125) = true := by rw [hc.K]; kernel_rfl
theorem n_sinverse (hc : CxOk c) : nsIn c.K mainGlobals "sinverse" = some (some (.ref 132)) := by rw [hc.K]; kernel_rfl
theorem k_sinverse (hc : CxOk c) : keepIn c.K (.ref 132) = true := by rw [hc.K]; kernel_rfl
theorem n_sderive (hc : CxOk c) : nsIn c.K mainGlobals "sderive" = some (some (.ref 137)) := by rw [hc.K]; kernel_rfl
theorem k_sderive (hc : CxOk c) : keepIn c.K (.ref 137) = true := by rw [hc.K]; kernel_rfl
theorem n_sintegrate (hc : CxOk c) : nsIn c.K mainGlobals "sintegrate" = some (some (.ref 142)) := by rw [hc.K]; kernel_rfl
theorem k_sintegrate (hc : CxOk c) : keepIn c.K (.ref 142) = true := by rw [hc.K]; kernel_rfl
theorem n_need_begin (hc : CxOk c) : nsIn c.K mainGlobals "need_begin" = some (some (.ref 149)) := by rw [hc.K]; kernel_rfl
theorem k_need_begin (hc : CxOk c) : keepIn c.K (.ref 149) = true := by rw [hc.K]; kernel_rfl
theorem n_sreverse (hc : CxOk c) : nsIn c.K mainGlobals "sreverse" = some (some (.ref 156)) := by rw [hc.K]; kernel_rfl
theorem k_sreverse (hc : CxOk c) : keepIn c.K (.ref 156) = true := by rw [hc.K]; kernel_rfl
theorem n_slog (hc : CxOk c) : nsIn c.K mainGlobals "slog" = some (some (.ref 163)) := by rw [hc.K]; kernel_rfl
theorem k_slog (hc : CxOk c) : keepIn c.K (.ref 163) = true := by rw [hc.K]; kernel_rfl
theorem n_swhole_power (hc : CxOk c) : nsIn c.K mainGlobals "swhole_power" = some (some (.ref 170)) := by rw [hc.K]; kernel_rfl
theorem k_swhole_power (hc : CxOk c) : keepIn c.K (.ref 170) = true := by rw [hc.K]; kernel_rfl
theorem n_zmul (hc : CxOk c) : nsIn c.K mainGlobals "zmul" = some (some (.ref 177)) := by rw [hc.K]; kernel_rfl
theorem k_zmul (hc : CxOk c) : keepIn c.K (.ref 177) = true := by rw [hc.K]; kernel_rfl
theorem n_zpower (hc : CxOk c) : nsIn c.K mainGlobals "zpower" = some (some (.ref 184)) := by rw [hc.K]; kernel_rfl
theorem k_zpower (hc : CxOk c) : keepIn c.K (.ref 184) = true := by rw [hc.K]; kernel_rfl
theorem n_law_draw (hc : CxOk c) : nsIn c.K mainGlobals "_law_draw" = some (some (.ref 191)) := by rw [hc.K]; kernel_rfl
theorem k_law_draw (hc : CxOk c) : keepIn c.K (.ref 191) = true := by rw [hc.K]; kernel_rfl
theorem n_law_ways (hc : CxOk c) : nsIn c.K mainGlobals "_law_ways" = some (some (.ref 198)) := by rw [hc.K]; kernel_rfl
theorem k_law_ways (hc : CxOk c) : keepIn c.K (.ref 198) = true := by rw [hc.K]; kernel_rfl
theorem n_abs (hc : CxOk c) : nsIn c.K mainGlobals "abs" = some none := by rw [hc.K]; kernel_rfl
theorem t_abs : bootBuiltins "abs" = some (.builtin "abs") := by decide +kernel
theorem n_max (hc : CxOk c) : nsIn c.K mainGlobals "max" = some none := by rw [hc.K]; kernel_rfl
theorem t_max : bootBuiltins "max" = some (.builtin "max") := by decide +kernel
theorem n_min (hc : CxOk c) : nsIn c.K mainGlobals "min" = some none := by rw [hc.K]; kernel_rfl
theorem t_min : bootBuiltins "min" = some (.builtin "min") := by decide +kernel
theorem n_len (hc : CxOk c) : nsIn c.K mainGlobals "len" = some none := by rw [hc.K]; kernel_rfl
theorem t_len : bootBuiltins "len" = some (.builtin "len") := by decide +kernel
theorem n_list (hc : CxOk c) : nsIn c.K mainGlobals "list" = some none := by rw [hc.K]; kernel_rfl
theorem n_range (hc : CxOk c) : nsIn c.K mainGlobals "range" = some none := by rw [hc.K]; kernel_rfl
theorem n_enumerate (hc : CxOk c) : nsIn c.K mainGlobals "enumerate" = some none := by rw [hc.K]; kernel_rfl
theorem n_int (hc : CxOk c) : nsIn c.K mainGlobals "int" = some none := by rw [hc.K]; kernel_rfl
theorem n_R0 (hc : CxOk c) : nsIn c.K mainGlobals "R0" = some (some (.ref 49)) := by rw [hc.K]; kernel_rfl
theorem n_R1 (hc : CxOk c) : nsIn c.K mainGlobals "R1" = some (some (.ref 50)) := by rw [hc.K]; kernel_rfl
theorem r0_is (hc : CxOk c) : ∃ o t u, c.K.lookup 49 = some o ∧ TupO o #[.int 0 t, .int 1 u] := by rw [hc.K]; exact ⟨_, _, _, rfl, rfl, _, rfl⟩
theorem r1_is (hc : CxOk c) : ∃ o t u, c.K.lookup 50 = some o ∧ TupO o #[.int 1 t, .int 1 u] := by rw [hc.K]; exact ⟨_, _, _, rfl, rfl, _, rfl⟩
end

theorem Et.cast {F : Fm} {Γ : Gam} {μ : Mu} {e : Expr} {b b' : Bool} (h : Et F Γ μ e b) (q : b = b') : Et F Γ μ e b' := q ▸ h
theorem Wl.weakPost {F : Fm} {Γ Γ₁ Γ₂ : Gam} {μ μ' : Mu} {t : Expr} {body : List Stmt} (h : Wl F Γ μ t body (.next Γ₁ μ')) (q : Sub Γ₂ Γ₁) : Wl F Γ μ t body (.next Γ₂ μ') := fun s g X R hR => h s g X R fun fl s' ⟨e, g', Y⟩ => hR fl s' ⟨e, g', Y.weak q⟩
theorem noMu {F : Fm} {P : Str → Addr → D → Prop} : ∀ y a d, (none : Mu) = some (y, a, d) → P y a d := fun _ _ _ e => by cases e
theorem et_call {F : Fm} {Γ : Gam} {μ : Mu} {f : Expr} {args : List Expr} {kws : List Keyword} {pos : Pos} {b : Bool} (h : Ev F Γ μ (.Call f args kws pos) (.bool b)) : Et F Γ μ (.Call f args kws pos) b := fun s g X =>
  wpAny_isTrue_value (wpAny_mono (h s g X) (fun v s' ⟨g', x, r⟩ => by
    have r : v = .bool b := r
    subst r
    exact wpAny_truthy_bool ⟨rfl, g', x⟩) fun _ _ f => f)
theorem ev_R0 {F : Fm} {Γ : Gam} {μ : Mu} {pos : Pos} (hc : CxOk F.c) (hk : F.env.kindOf "R0" = some .globalImplicit) : Ev F Γ μ (.Name "R0" pos) (.r 0 1) := by
  obtain ⟨o, t, u, ho, h⟩ := r0_is hc
  exact ev_glob_rat (.inl rfl) (n_R0 hc) hk (by decide) ho h
theorem ev_R1 {F : Fm} {Γ : Gam} {μ : Mu} {pos : Pos} (hc : CxOk F.c) (hk : F.env.kindOf "R1" = some .globalImplicit) : Ev F Γ μ (.Name "R1" pos) (.r 1 1) := by
  obtain ⟨o, t, u, ho, h⟩ := r1_is hc
  exact ev_glob_rat (.inr rfl) (n_R1 hc) hk (by decide) ho h
theorem plain_int {l : Int} {k : Nat} {p : Pos} : PlainIx (.Constant (.int l) k p) := fun _ _ _ => rfl
theorem plain_name {x : Str} {p : Pos} : PlainIx (.Name x p) := fun _ _ _ => rfl
theorem plain_bin {a b : Expr} {op : Operator} {p : Pos} : PlainIx (.BinOp a op b p) := fun _ _ _ => rfl
/-- whole numbers as pairs -/
def ri (l : List Int) : List S := l.map fun i => .rat i 1
theorem ri_len (l : List Int) : (ri l).length = l.length := by simp [ri]
theorem ri_get {l : List Int} {k : Nat} (h : k < l.length) : (ri l)[k]? = some (.rat (l.getD k 0) 1) := by
  simp [ri, List.getD, List.getElem?_eq_getElem h]
theorem ev_ri {F : Fm} {Γ : Gam} {μ : Mu} {value slice : Expr} {pos : Pos} {l : List Int} {k : Int} (n : Nat) (hv : Ev F Γ μ value (.lst (ri l))) (hs : Ev F Γ μ slice (.i k)) (hn : k = n) (h1 : n < l.length) (hz : l.length ≤ 100) (hp : PlainIx slice) :
    Ev F Γ μ (.Subscript value slice pos) (.r (l.getD n 0) 1) := by
  subst hn
  exact ev_item hv hs (by omega) (ri_get h1) (by rw [ri_len]; omega) hp
end Mine

namespace Mine
local macro_rules | `(tactic| walk_at "SD") => `(tactic| first | assumption | (unfold Small; decide) | omega | (simp only [Small] at *; omega) | fail "SD")
theorem natAbs_if (a : Int) : (if a < 0 then -a else a) = (a.natAbs : Int) := by split <;> omega
theorem gcd_step (x y : Nat) (h : y ≠ 0) : (Int.fmod (x : Int) (y : Int)) = ((x % y : Nat) : Int) := by
  rw [Int.fmod_eq_emod_of_nonneg _ (by omega)]; rfl
def ratI (p q : Int) : S := .rat (p.fdiv (Int.gcd p q)) (q.fdiv (Int.gcd p q))
theorem ratI_one (p : Int) : ratI p 1 = .rat p 1 := by simp [ratI]
section
variable {c : Cx}

theorem c_gcd (hc : CxOk c) (a b : Int) : CallD c 1 41 [.i a, .i b] (.i (Int.gcd a b)) := by
  refine callD_plain (xs := ["a", "b"]) (out := .ret _) hc.K rfl ?code ⟨rfl, rfl, rfl, rfl, rfl, rfl, rfl, rfl⟩ rfl ?bind ?nd ?cell ?loc ?h (.inl rfl)
  case code => kernel_rfl
  case nd => decide
  case cell => decide
  case loc => decide
  case bind => intro vs h; match vs, h with | [v, u], _ => rfl
  intro L q cd A h₀ g₀ s₀
  dsimp only
  refine bk_cons (sx_tup2 (d₁ := .i (if a < 0 then -a else a)) (d₂ := .i (if b < 0 then -b else b)) (ev_blt (id := "abs") (evs_cons (ev_name rfl rfl) evs_nil rfl) (n_abs hc) t_abs (by decide) rfl rfl rfl rfl b_abs) (ev_blt (id := "abs") (evs_cons (ev_name rfl rfl) evs_nil rfl) (n_abs hc) t_abs (by decide) rfl rfl rfl rfl b_abs) rfl rfl (fun _ _ _ e => by cases e) rfl rfl rfl rfl) ?_
  rw [natAbs_if, natAbs_if]
  refine bk_cons (sx_while (o := .next [("a", .i (Int.gcd a b))] none) ?_) (bk_ret (sx_ret (ev_name rfl rfl)))
  refine wl_weak (Γ' := [("a", .i a.natAbs), ("b", .i b.natAbs)]) (sub_cons rfl (sub_cons rfl sub_nil)) ?_
  show Wl _ _ _ _ _ (.next [("a", .i (Nat.gcd a.natAbs b.natAbs : Nat))] none)
  generalize a.natAbs = x
  generalize b.natAbs = y
  induction y using Nat.strongRecOn generalizing x with
  | ind y ih =>
    by_cases hy : y = 0
    · subst hy
      rw [Nat.gcd_zero_right]
      refine Wl.weakPost (wl_false (Et.cast (et_cmp (ev_name rfl rfl) ev_int c_ne rfl) (by simp))) (sub_cons rfl sub_nil)
    · refine wl_true (Γ₁ := [("a", .i y), ("b", .i (x % y : Nat))]) (μ₁ := none) (Et.cast (et_cmp (ev_name rfl rfl) ev_int c_ne rfl) (by simpa using hy)) ?_ ?_
      · refine bk_cons (sx_tup2 (d₁ := .i y) (d₂ := .i (Int.fmod x y)) (ev_name rfl rfl) (ev_mod (ev_name rfl rfl) (ev_name rfl rfl) (by omega)) rfl rfl (fun _ _ _ e => by cases e) rfl rfl rfl rfl) ?_
        rw [gcd_step x y hy]
        exact bk_nil (sub_cons rfl (sub_cons rfl sub_nil))
      · have := ih (x % y) (Nat.mod_lt _ (by omega)) y
        rw [show Nat.gcd x y = Nat.gcd y (x % y) by rw [Nat.gcd_comm x y, Nat.gcd_rec, Nat.gcd_comm]]
        exact this

theorem c_rat (hc : CxOk c) (p q : Int) (hq : 0 < q) (sp : Small p) (sq : Small q) : CallD c 2 57 [.i p, .i q] (.s (ratI p q)) := by
  refine callD_plain (xs := ["top", "bottom"]) (out := .ret _) hc.K rfl ?code ⟨rfl, rfl, rfl, rfl, rfl, rfl, rfl, rfl⟩ rfl ?bind ?nd ?cell ?loc ?h (.inl rfl)
  case code => kernel_rfl
  case nd => decide
  case cell => decide
  case loc => decide
  case bind => intro vs h; match vs, h with | [v, u], _ => rfl
  intro L q' cd A h₀ g₀ s₀
  dsimp only
  have hg : ((Int.gcd p q : Nat) : Int) ≠ 0 := by
    have : Int.gcd p q ≠ 0 := by
      intro h
      have := (Int.gcd_eq_zero_iff.mp h).2
      omega
    omega
  refine bk_cons (sx_if (c := false) (o := .next [("top", .i p), ("bottom", .i q)] none) (Et.cast (et_cmp (ev_name rfl rfl) ev_int c_eq rfl) (by simp; omega)) (fun h => by cases h) fun _ => bk_nil .refl) ?_
  refine bk_cons (sx_assign (d := .i (Int.gcd p q)) (ev_if (c := true) (Et.cast (et_cmp (ev_name rfl rfl) ev_int c_gt rfl) (by simpa using hq)) (fun _ => (ev_call (c_gcd hc p q) (evs_cons (ev_name rfl rfl) (evs_cons (ev_name rfl rfl) evs_nil rfl) rfl) (n_gcd hc) (k_gcd hc) (Nat.le_of_ble_eq_true rfl) rfl rfl rfl rfl)) (fun h => by cases h)) rfl (fun _ _ _ e => by cases e) rfl) ?_
  exact bk_ret (sx_ret (ev_pair (evs_cons (ev_floordiv (ev_name rfl rfl) (ev_name rfl rfl) sp hg) (evs_cons (ev_floordiv (ev_name rfl rfl) (ev_name rfl rfl) sq hg) evs_nil rfl) rfl)))

theorem c_radd (hc : CxOk c) (a b : Int) (sa : Small a) (sb : Small b) (sc : Small (a + b)) : CallD c 3 64 [.r a 1, .r b 1] (.r (a + b) 1) := by
  refine callD_plain (xs := ["a", "b"]) (out := .ret _) hc.K rfl ?code ⟨rfl, rfl, rfl, rfl, rfl, rfl, rfl, rfl⟩ rfl ?bind ?nd ?cell ?loc ?h (.inl rfl)
  case code => kernel_rfl
  case nd => decide
  case cell => decide
  case loc => decide
  case bind => intro vs h; match vs, h with | [v, u], _ => rfl
  intro L q cd A h₀ g₀ s₀
  dsimp only
  have sc' : Small (a * 1 + b * 1) := by simpa using sc
  have s1 : Small (1 * 1 : Int) := by unfold Small; decide
  exact bk_ret (sx_ret (Ev.cast (d := .s (ratI (a * 1 + b * 1) (1 * 1))) (ev_call (c_rat hc _ _ (by decide) sc' s1) (evs_cons (ev_add (ev_mul (ev_part (ev_name rfl rfl) ev_int (.inl ⟨rfl, rfl⟩) plain_int) (ev_part (ev_name rfl rfl) ev_int (.inr ⟨rfl, rfl⟩) plain_int) (by walk_at "SD") (by walk_at "SD")) (ev_mul (ev_part (ev_name rfl rfl) ev_int (.inl ⟨rfl, rfl⟩) plain_int) (ev_part (ev_name rfl rfl) ev_int (.inr ⟨rfl, rfl⟩) plain_int) (by walk_at "SD") (by walk_at "SD"))) (evs_cons (ev_mul (ev_part (ev_name rfl rfl) ev_int (.inr ⟨rfl, rfl⟩) plain_int) (ev_part (ev_name rfl rfl) ev_int (.inr ⟨rfl, rfl⟩) plain_int) (by walk_at "SD") (by walk_at "SD")) evs_nil rfl) rfl) (n_rat hc) (k_rat hc) (Nat.le_of_ble_eq_true rfl) rfl rfl rfl rfl) (by simp [ratI_one])))

theorem c_rsub (hc : CxOk c) (a b : Int) (sa : Small a) (sb : Small b) (sc : Small (a - b)) : CallD c 3 71 [.r a 1, .r b 1] (.r (a - b) 1) := by
  refine callD_plain (xs := ["a", "b"]) (out := .ret _) hc.K rfl ?code ⟨rfl, rfl, rfl, rfl, rfl, rfl, rfl, rfl⟩ rfl ?bind ?nd ?cell ?loc ?h (.inl rfl)
  case code => kernel_rfl
  case nd => decide
  case cell => decide
  case loc => decide
  case bind => intro vs h; match vs, h with | [v, u], _ => rfl
  intro L q cd A h₀ g₀ s₀
  dsimp only
  have sc' : Small (a * 1 - b * 1) := by simpa using sc
  have s1 : Small (1 * 1 : Int) := by unfold Small; decide
  exact bk_ret (sx_ret (Ev.cast (d := .s (ratI (a * 1 - b * 1) (1 * 1))) (ev_call (c_rat hc _ _ (by decide) sc' s1) (evs_cons (ev_sub (ev_mul (ev_part (ev_name rfl rfl) ev_int (.inl ⟨rfl, rfl⟩) plain_int) (ev_part (ev_name rfl rfl) ev_int (.inr ⟨rfl, rfl⟩) plain_int) (by walk_at "SD") (by walk_at "SD")) (ev_mul (ev_part (ev_name rfl rfl) ev_int (.inl ⟨rfl, rfl⟩) plain_int) (ev_part (ev_name rfl rfl) ev_int (.inr ⟨rfl, rfl⟩) plain_int) (by walk_at "SD") (by walk_at "SD"))) (evs_cons (ev_mul (ev_part (ev_name rfl rfl) ev_int (.inr ⟨rfl, rfl⟩) plain_int) (ev_part (ev_name rfl rfl) ev_int (.inr ⟨rfl, rfl⟩) plain_int) (by walk_at "SD") (by walk_at "SD")) evs_nil rfl) rfl) (n_rat hc) (k_rat hc) (Nat.le_of_ble_eq_true rfl) rfl rfl rfl rfl) (by simp [ratI_one])))

theorem c_rmul (hc : CxOk c) (a p b q : Int) (hq : 0 < p * q) (sa : Small a) (sb : Small b) (sp : Small p) (sq : Small q) (sc : Small (a * b)) (sd : Small (p * q)) : CallD c 3 78 [.r a p, .r b q] (.s (ratI (a * b) (p * q))) := by
  refine callD_plain (xs := ["a", "b"]) (out := .ret _) hc.K rfl ?code ⟨rfl, rfl, rfl, rfl, rfl, rfl, rfl, rfl⟩ rfl ?bind ?nd ?cell ?loc ?h (.inl rfl)
  case code => kernel_rfl
  case nd => decide
  case cell => decide
  case loc => decide
  case bind => intro vs h; match vs, h with | [v, u], _ => rfl
  intro L q' cd A h₀ g₀ s₀
  dsimp only
  exact bk_ret (sx_ret (ev_call (c_rat hc _ _ hq sc sd) (evs_cons (ev_mul (ev_part (ev_name rfl rfl) ev_int (.inl ⟨rfl, rfl⟩) plain_int) (ev_part (ev_name rfl rfl) ev_int (.inl ⟨rfl, rfl⟩) plain_int) (by walk_at "SD") (by walk_at "SD")) (evs_cons (ev_mul (ev_part (ev_name rfl rfl) ev_int (.inr ⟨rfl, rfl⟩) plain_int) (ev_part (ev_name rfl rfl) ev_int (.inr ⟨rfl, rfl⟩) plain_int) (by walk_at "SD") (by walk_at "SD")) evs_nil rfl) rfl) (n_rat hc) (k_rat hc) (Nat.le_of_ble_eq_true rfl) rfl rfl rfl rfl))
theorem c_rdiv (hc : CxOk c) (a p b q : Int) (hq : 0 < p * b) (sa : Small a) (sb : Small b) (sp : Small p) (sq : Small q) (sc : Small (a * q)) (sd : Small (p * b)) : CallD c 3 85 [.r a p, .r b q] (.s (ratI (a * q) (p * b))) := by
  refine callD_plain (xs := ["a", "b"]) (out := .ret _) hc.K rfl ?code ⟨rfl, rfl, rfl, rfl, rfl, rfl, rfl, rfl⟩ rfl ?bind ?nd ?cell ?loc ?h (.inl rfl)
  case code => kernel_rfl
  case nd => decide
  case cell => decide
  case loc => decide
  case bind => intro vs h; match vs, h with | [v, u], _ => rfl
  intro L q' cd A h₀ g₀ s₀
  dsimp only
  exact bk_ret (sx_ret (ev_call (c_rat hc _ _ hq sc sd) (evs_cons (ev_mul (ev_part (ev_name rfl rfl) ev_int (.inl ⟨rfl, rfl⟩) plain_int) (ev_part (ev_name rfl rfl) ev_int (.inr ⟨rfl, rfl⟩) plain_int) (by walk_at "SD") (by walk_at "SD")) (evs_cons (ev_mul (ev_part (ev_name rfl rfl) ev_int (.inr ⟨rfl, rfl⟩) plain_int) (ev_part (ev_name rfl rfl) ev_int (.inl ⟨rfl, rfl⟩) plain_int) (by walk_at "SD") (by walk_at "SD")) evs_nil rfl) rfl) (n_rat hc) (k_rat hc) (Nat.le_of_ble_eq_true rfl) rfl rfl rfl rfl))
theorem c_is_vast (hc : CxOk c) (a : Int) (sa : a.natAbs < 2 ^ 64) : CallD c 1 92 [.r a 1] (.bool false) := by
  refine callD_plain (xs := ["a"]) (out := .ret _) hc.K rfl ?code ⟨rfl, rfl, rfl, rfl, rfl, rfl, rfl, rfl⟩ rfl ?bind ?nd ?cell ?loc ?h (.inl rfl)
  case code => kernel_rfl
  case nd => decide
  case cell => decide
  case loc => decide
  case bind => intro vs h; match vs, h with | [v], _ => rfl
  intro L q cd A h₀ g₀ s₀
  dsimp only
  refine bk_cons (sx_assign (d := .i (if (if a < 0 then -a else a) < 1 then 1 else (if a < 0 then -a else a))) (ev_blt (id := "max") (evs_cons (ev_blt (id := "abs") (evs_cons (ev_part (ev_name rfl rfl) ev_int (.inl ⟨rfl, rfl⟩) plain_int) evs_nil rfl) (n_abs hc) t_abs (by decide) rfl rfl rfl rfl b_abs) (evs_cons (ev_part (ev_name rfl rfl) ev_int (.inr ⟨rfl, rfl⟩) plain_int) evs_nil rfl) rfl) (n_max hc) t_max (by decide) rfl rfl rfl rfl b_max) rfl (fun _ _ _ e => by cases e) rfl) ?_
  refine bk_ret (sx_ret (ev_and_false (Ev.cast (ev_cmp (ev_name rfl rfl) (ev_pow ev_int ev_int (by decide) (by decide)) c_ge rfl) ?_)))
  congr 1
  simp only [decide_eq_false_iff_not]
  have : (2 : Int) ^ (Int.toNat 64) = 18446744073709551616 := by decide
  rw [this]
  split <;> split <;> omega
theorem c_let (hc : CxOk c) (a : Int) (sa : a.natAbs < 2 ^ 64) : CallD c 2 113 [.r a 1] (.r a 1) := by
  refine callD_plain (xs := ["number"]) (out := .ret _) hc.K rfl ?code ⟨rfl, rfl, rfl, rfl, rfl, rfl, rfl, rfl⟩ rfl ?bind ?nd ?cell ?loc ?h (.inl rfl)
  case code => kernel_rfl
  case nd => decide
  case cell => decide
  case loc => decide
  case bind => intro vs h; match vs, h with | [v], _ => rfl
  intro L q cd A h₀ g₀ s₀
  dsimp only
  refine bk_cons (sx_if (c := false) (o := .next [("number", .r a 1)] none) (et_call (ev_call (c_is_vast hc a sa) (evs_cons (ev_name rfl rfl) evs_nil rfl) (n_is_vast hc) (k_is_vast hc) (Nat.le_of_ble_eq_true rfl) rfl rfl rfl rfl)) (fun h => by cases h) fun _ => bk_nil .refl) ?_
  exact bk_ret (sx_ret (ev_name rfl rfl))
theorem c_rcompare (hc : CxOk c) (a : Int) (sa : Small a) : CallD c 1 99 [.r a 1, .r a 1] (.i 0) := by
  refine callD_plain (xs := ["a", "b"]) (out := .ret _) hc.K rfl ?code ⟨rfl, rfl, rfl, rfl, rfl, rfl, rfl, rfl⟩ rfl ?bind ?nd ?cell ?loc ?h (.inl rfl)
  case code => kernel_rfl
  case nd => decide
  case cell => decide
  case loc => decide
  case bind => intro vs h; match vs, h with | [v, u], _ => rfl
  intro L q cd A h₀ g₀ s₀
  dsimp only
  refine bk_cons (sx_assign (d := .i (a * 1 - a * 1)) (ev_sub (ev_mul (ev_part (ev_name rfl rfl) ev_int (.inl ⟨rfl, rfl⟩) plain_int) (ev_part (ev_name rfl rfl) ev_int (.inr ⟨rfl, rfl⟩) plain_int) (by walk_at "SD") (by walk_at "SD")) (ev_mul (ev_part (ev_name rfl rfl) ev_int (.inl ⟨rfl, rfl⟩) plain_int) (ev_part (ev_name rfl rfl) ev_int (.inr ⟨rfl, rfl⟩) plain_int) (by walk_at "SD") (by walk_at "SD"))) rfl (fun _ _ _ e => by cases e) rfl) ?_
  exact bk_ret (sx_ret (Ev.cast (ev_subb (ev_cmp (ev_name rfl rfl) ev_int c_gt rfl) (ev_cmp (ev_name rfl rfl) ev_int c_lt rfl)) (by simp)))
theorem c_need (hc : CxOk c) (a : Int) (l : List S) (sa : Small a) (hl : l.length ≤ 900) : CallD c 2 149 [.lst (.rat a 1 :: l), .r a 1] .none := by
  refine callD_plain (xs := ["a", "number"]) (out := .next [] none) hc.K rfl ?code ⟨rfl, rfl, rfl, rfl, rfl, rfl, rfl, rfl⟩ rfl ?bind ?nd ?cell ?loc ?h (.inr ⟨rfl, _, _, rfl⟩)
  case code => kernel_rfl
  case nd => decide
  case cell => decide
  case loc => decide
  case bind => intro vs h; match vs, h with | [v, u], _ => rfl
  intro L q cd A h₀ g₀ s₀
  dsimp only
  have hl' : (S.rat a 1 :: l).length ≤ 1000 := by simp; omega
  have e0 : (S.rat a 1 :: l)[(0 : Int).toNat]? = some (.rat a 1) := rfl
  exact bk_cons (sx_if (c := true && false) (o := .next [] none) (et_and (et_cmp (ev_blt (id := "len") (evs_cons (ev_name rfl rfl) evs_nil rfl) (n_len hc) t_len (by decide) rfl rfl rfl rfl (b_len hl')) ev_int c_gt rfl |>.cast (by simp)) fun _ =>
    et_cmp (ev_call (c_rcompare hc a sa) (evs_cons (ev_item (ev_name rfl rfl) ev_int (by decide) e0 hl' plain_int) (evs_cons (ev_name rfl rfl) evs_nil rfl) rfl) (n_rcompare hc) (k_rcompare hc) (Nat.le_of_ble_eq_true rfl) rfl rfl rfl rfl) ev_int c_ne rfl |>.cast (by simp)) (fun h => by cases h) fun _ => bk_nil sub_nil) (bk_nil .refl)
theorem c_cut (hc : CxOk c) (m : Nat) (h1 : 1 ≤ m) (h2 : m ≤ 100) : CallD c 1 106 [.lst [.rat 1 1], .i m] (.lst (.rat 1 1 :: List.replicate (m - 1) (.rat 0 1))) := by
  refine callD_plain (xs := ["a", "order"]) (out := .ret _) hc.K rfl ?code ⟨rfl, rfl, rfl, rfl, rfl, rfl, rfl, rfl⟩ rfl ?bind ?nd ?cell ?loc ?h (.inl rfl)
  case code => kernel_rfl
  case nd => decide
  case cell => decide
  case loc => decide
  case bind => intro vs h; match vs, h with | [v, u], _ => rfl
  intro L q cd A h₀ g₀ s₀
  dsimp only
  refine bk_ret (sx_ret (Ev.cast (Evn.ev (ev_add_lists (Evn.ev (ev_list_of (Evn.ev (ev_upto (ev_name rfl rfl) (ev_name rfl rfl) (by omega) (by simp) (fun _ _ => rfl) (fun _ _ => rfl))) (by simp; omega) (n_list hc) rfl rfl))
    (Evn.ev (ev_mul_list (l := [.rat 0 1]) (evs_cons (ev_R0 hc rfl) evs_nil rfl) (ev_sub (ev_name rfl rfl) (ev_blt (id := "len") (evs_cons (ev_name rfl rfl) evs_nil rfl) (n_len hc) t_len (by decide) rfl rfl rfl rfl (b_len (by simp)))) (by simp; omega) (by simp; omega) (by simp) (by simp) (by simp; omega))) (by simp; omega))) ?_))
  congr 1
  obtain ⟨k, rfl⟩ : ∃ k, m = k + 1 := ⟨m - 1, by omega⟩
  have e : ∀ n : Nat, (List.replicate n [S.rat 0 1]).flatten = List.replicate n (S.rat 0 1) := fun n => by
    induction n with
    | zero => rfl
    | succ n ih => simp only [List.replicate_succ, List.flatten_cons, ih]; rfl
  rw [e]
  have e2 : ((k + 1 : Nat) : Int).toNat = k + 1 := by simp
  rw [e2]
  have e3 : (((k + 1 : Nat) : Int) - (([S.rat 1 1] : List S).length : Int)).toNat = k := by simp
  rw [e3]
  simp

end
end Mine

namespace Mine
local macro_rules | `(tactic| walk_at "SD") => `(tactic| first | assumption | (unfold Small; decide) | omega | (simp only [Small] at *; omega) | fail "SD")

def Ok (l : List Int) : Prop := l.length ≤ 20 ∧ ∀ x ∈ l, x.natAbs < 2 ^ 63
theorem Ok.get {l : List Int} (h : Ok l) (i : Nat) : (l.getD i 0).natAbs < 2 ^ 63 := by
  by_cases hi : i < l.length
  · rw [show l.getD i 0 = l[i] by simp [List.getD, List.getElem?_eq_getElem hi]]
    exact h.2 _ (List.getElem_mem hi)
  · rw [show l.getD i 0 = 0 by simp [List.getD, List.getElem?_eq_none (Nat.le_of_not_lt hi)]]
    decide
theorem small63 {x : Int} (h : x.natAbs < 2 ^ 63) : Small x := Nat.lt_trans h (by decide)
theorem prod_le {x y : Int} (h : x.natAbs < 2 ^ 63) (h' : y.natAbs < 2 ^ 63) : (x * y).natAbs ≤ 2 ^ 126 := by
  rw [Int.natAbs_mul]
  exact Nat.le_trans (Nat.mul_le_mul (Nat.le_of_lt h) (Nat.le_of_lt h')) (by decide)
theorem small_of {x : Int} (n : Nat) (h : x.natAbs ≤ n * 2 ^ 126) (hn : n ≤ 100) : Small x :=
  Nat.lt_of_le_of_lt (Nat.le_trans h (Nat.mul_le_mul_right _ hn)) (by decide)
def csum (u v : List Int) (t : Nat) : Nat → Int
  | 0 => 0
  | i + 1 => csum u v t i + u.getD i 0 * v.getD (t - i) 0
theorem csum_le {u v : List Int} (hu : Ok u) (hv : Ok v) (t : Nat) : ∀ i, (csum u v t i).natAbs ≤ i * 2 ^ 126
  | 0 => by simp [csum]
  | i + 1 => by
    have := csum_le hu hv t i
    have h2 := prod_le (hu.get i) (hv.get (t - i))
    have h3 := Int.natAbs_add_le (csum u v t i) (u.getD i 0 * v.getD (t - i) 0)
    simp only [csum]
    rw [Nat.add_mul, Nat.one_mul]
    omega
def convs (u v : List Int) : List Int := (List.range (min u.length v.length)).map fun t => csum u v t (t + 1)
theorem convs_len (u v : List Int) : (convs u v).length = min u.length v.length := by simp [convs]
theorem ev_ri_mu {F : Fm} {Γ : Gam} {y : Str} {a : Addr} {np : Pos} {slice : Expr} {pos : Pos} {l : List Int} {k : Int} (n : Nat) (hs : Ev F Γ (some (y, a, .lst (ri l))) slice (.i k)) (hn : k = n) (h1 : n < l.length) (hz : l.length ≤ 100) (hp : PlainIx slice)
    (hd : (y == ("__debug__" : Str)) = false) : Ev F Γ (some (y, a, .lst (ri l))) (.Subscript (.Name y np) slice pos) (.r (l.getD n 0) 1) := by
  subst hn
  exact ev_item_mu hs (by omega) (ri_get h1) (by rw [ri_len]; omega) hp hd
section
variable {c : Cx}
theorem c_rmul1 (hc : CxOk c) (a b : Int) (sa : Small a) (sb : Small b) (sc : Small (a * b)) : CallD c 3 78 [.r a 1, .r b 1] (.r (a * b) 1) := by
  have := c_rmul hc a 1 b 1 (by decide) sa sb (by unfold Small; decide) (by unfold Small; decide) sc (by unfold Small; decide)
  simpa [ratI_one] using this
theorem c_rdiv1 (hc : CxOk c) (a b : Int) (hb : 0 < b) (sa : Small a) (sb : Small b) : CallD c 3 85 [.r a 1, .r b 1] (.s (ratI a b)) := by
  have := c_rdiv hc a 1 b 1 (by omega) sa sb (by unfold Small; decide) (by unfold Small; decide) (by simpa using sa) (by simpa using sb)
  simpa using this

theorem c_mixed (hc : CxOk c) (u v : List Int) (t : Nat) (hu : Ok u) (hv : Ok v) (h1 : t < u.length) (h2 : t < v.length) : CallD c 4 120 [.lst (ri u), .lst (ri v), .i t] (.r (csum u v t (t + 1)) 1) := by
  refine callD_plain (xs := ["a", "b", "at"]) (out := .ret _) hc.K rfl ?code ⟨rfl, rfl, rfl, rfl, rfl, rfl, rfl, rfl⟩ rfl ?bind ?nd ?cell ?loc ?h (.inl rfl)
  case code => kernel_rfl
  case nd => decide
  case cell => decide
  case loc => decide
  case bind => intro vs h; match vs, h with | [v, u, x], _ => rfl
  intro L q cd A h₀ g₀ s₀
  dsimp only
  have l1 := hu.1
  have l2 := hv.1
  refine bk_cons (sx_assign (ev_R0 hc rfl) rfl (fun _ _ _ e => by cases e) rfl) ?_
  refine bk_cons (sx_for (n := t + 1) (Γs := fun i => [("found", .r (csum u v t i) 1), ("a", .lst (ri u)), ("b", .lst (ri v)), ("at", .i t)]) (μs := fun _ => none) (src_name (raw_range1 (n := t + 1) (ev_add (ev_name rfl rfl) ev_int) (by simp) (by omega) (n_range hc) rfl rfl) rfl (fun _ _ => rfl))
    (sub_cons rfl (sub_cons rfl (sub_cons rfl (sub_cons rfl sub_nil)))) (fun _ _ _ _ e => by cases e) ?body (fun _ => rfl)) (bk_ret (sx_ret (ev_name rfl rfl)))
  intro i hi h₀ g₀ s₀
  have p1 := hu.get i
  have p2 := hv.get (t - i)
  have p3 := csum_le hu hv t i
  have p4 := csum_le hu hv t (i + 1)
  refine bk_cons (sx_if (o := .next [("found", .r (csum u v t (i + 1)) 1), ("a", .lst (ri u)), ("b", .lst (ri v)), ("at", .i t)] none)
    (et_and (et_cmp (ev_ri i (ev_name rfl rfl) (ev_name rfl rfl) rfl (by omega) (by omega) plain_name) (ev_R0 hc rfl) c_neS rfl) fun _ => et_cmp (ev_ri (t - i) (ev_name rfl rfl) (ev_sub (ev_name rfl rfl) (ev_name rfl rfl)) (by omega) (by omega) (by omega) plain_bin) (ev_R0 hc rfl) c_neS rfl) (fun h => ?tt) (fun h => ?ff)) (bk_nil .refl)
  case tt =>
    refine bk_cons (sx_assign (ev_call (c_radd hc (csum u v t i) (u.getD i 0 * v.getD (t - i) 0) (small_of i p3 (by omega)) (small_of 1 (by have := prod_le p1 p2; omega) (by decide)) (small_of (i + 1) p4 (by omega))) (evs_cons (ev_name rfl rfl) (evs_cons (ev_call (c_rmul1 hc (u.getD i 0) (v.getD (t - i) 0) (small63 p1) (small63 p2) (small_of 1 (by have := prod_le p1 p2; omega) (by decide))) (evs_cons (ev_ri i (ev_name rfl rfl) (ev_name rfl rfl) rfl (by omega) (by omega) plain_name) (evs_cons (ev_ri (t - i) (ev_name rfl rfl) (ev_sub (ev_name rfl rfl) (ev_name rfl rfl)) (by omega) (by omega) (by omega) plain_bin) evs_nil rfl) rfl) (n_rmul hc) (k_rmul hc) (Nat.le_of_ble_eq_true rfl) rfl rfl rfl rfl) evs_nil rfl) rfl) (n_radd hc) (k_radd hc) (Nat.le_of_ble_eq_true rfl) rfl rfl rfl rfl) rfl (fun _ _ _ e => by cases e) rfl) ?_
    exact bk_nil (sub_cons rfl (sub_cons rfl (sub_cons rfl (sub_cons rfl sub_nil))))
  case ff =>
    have e : csum u v t (i + 1) = csum u v t i := by
      have : u.getD i 0 * v.getD (t - i) 0 = 0 := by
        rw [Int.mul_eq_zero]
        by_cases q : u.getD i 0 = 0
        · exact .inl q
        · refine .inr ?_
          have e1 : decide (S.rat (u.getD i 0) 1 = S.rat 0 1) = false := by simp only [S.rat.injEq, and_true]; exact decide_eq_false q
          rw [e1] at h
          simp only [Bool.not_false, Bool.true_and, Bool.not_eq_false', decide_eq_true_eq, S.rat.injEq, and_true] at h
          exact h
      simp only [csum, this, Int.add_zero]
    rw [e]
    exact bk_nil (sub_cons rfl (sub_cons rfl (sub_cons rfl (sub_cons rfl sub_nil))))

theorem c_smul (hc : CxOk c) (u v : List Int) (hu : Ok u) (hv : Ok v) (hw : Ok (convs u v)) : CallD c 5 125 [.lst (ri u), .lst (ri v)] (.lst (ri (convs u v))) := by
  refine callD_cells (xs := ["a", "b"]) (out := .ret _) hc.K rfl ?code ⟨rfl, rfl, rfl, rfl, rfl, rfl, rfl, rfl⟩ rfl ?bind ?nd ?loc ?h (.inl rfl)
  case code => kernel_rfl
  case nd => decide
  case loc => decide
  case bind => intro vs h; match vs, h with | [v, u], _ => rfl
  intro L q cd A h₀ g₀ s₀
  dsimp only
  have l1 := hu.1
  have l2 := hv.1
  have e1 : (ri u).length ≤ 1000 := by rw [ri_len]; omega
  have e2 : (ri v).length ≤ 1000 := by rw [ri_len]; omega
  refine bk_ret (sx_ret (Evn.ev (Evn.cast (evn_comp (n := min u.length v.length) (out := fun i => .rat (csum u v i (i + 1)) 1) (Γc := [("a", .lst (ri u)), ("b", .lst (ri v))]) (raw_range1 (ev_blt (id := "min") (evs_cons (ev_blt (id := "len") (evs_cons (ev_name rfl rfl) evs_nil rfl) (n_len hc) t_len (by decide) rfl rfl rfl rfl (b_len e1)) (evs_cons (ev_blt (id := "len") (evs_cons (ev_name rfl rfl) evs_nil rfl) (n_len hc) t_len (by decide) rfl rfl rfl rfl (b_len e2)) evs_nil rfl) rfl) (n_min hc) t_min (by decide) rfl rfl rfl rfl b_min) ?n1 ?n2 (n_range hc) rfl rfl)
    ?helt rfl (by decide) rfl (by decide) rfl (around_cons rfl rfl rfl rfl (around_cons rfl rfl rfl rfl around_nil)) (by omega) (fun _ _ => rfl) (fun _ => rfl)) ?fin)))
  case n1 => rw [ri_len, ri_len]; split <;> omega
  case n2 => rw [ri_len, ri_len]; split <;> omega
  case fin => simp [ri, convs, List.map_map, Function.comp_def]
  case helt =>
    intro i hi C h₀ g₀ s₀
    have hb : (csum u v i (i + 1)).natAbs < 2 ^ 64 := Nat.lt_trans (hw.2 _ (List.mem_map.mpr ⟨i, List.mem_range.mpr hi, rfl⟩)) (by decide)
    exact (ev_call (c_let hc _ hb) (evs_cons (ev_call (c_mixed hc u v i hu hv (by omega) (by omega)) (evs_cons (ev_name rfl rfl) (evs_cons (ev_name rfl rfl) (evs_cons (ev_name rfl rfl) evs_nil rfl) rfl) rfl) (n_mixed hc) (k_mixed hc) (Nat.le_of_ble_eq_true rfl) rfl rfl rfl rfl) evs_nil rfl) (n_let hc) (k_let hc) (Nat.le_of_ble_eq_true rfl) rfl rfl rfl rfl)

end
end Mine

namespace Mine
local macro_rules | `(tactic| walk_at "SD") => `(tactic| first | assumption | (unfold Small; decide) | omega | (simp only [Small] at *; omega) | fail "SD")

def dsum (u f : List Int) (t : Nat) : Nat → Int
  | 0 => if t = 0 then 1 else 0
  | j + 1 => dsum u f t j - u.getD (1 + j) 0 * f.getD (t - (1 + j)) 0
def invN (u : List Int) : Nat → List Int
  | 0 => []
  | t + 1 => invN u t ++ [dsum u (invN u t) t t]
theorem invN_len (u : List Int) : ∀ t, (invN u t).length = t
  | 0 => rfl
  | t + 1 => by simp [invN, invN_len u t]
theorem invN_mem (u : List Int) {x : Int} {t : Nat} (h : x ∈ invN u t) : ∀ k, x ∈ invN u (t + k)
  | 0 => h
  | k + 1 => by
    have := invN_mem u h k
    rw [← Nat.add_assoc]
    exact List.mem_append_left _ this
theorem invN_ok {u : List Int} {n : Nat} (h : Ok (invN u n)) {t : Nat} (ht : t ≤ n) : Ok (invN u t) := by
  obtain ⟨k, rfl⟩ : ∃ k, n = t + k := ⟨n - t, by omega⟩
  refine ⟨by have := h.1; rw [invN_len] at this ⊢; omega, fun x hx => h.2 x (invN_mem u hx k)⟩
theorem dsum_le {u f : List Int} (hu : Ok u) (hf : Ok f) (t : Nat) : ∀ j, (dsum u f t j).natAbs ≤ (j + 1) * 2 ^ 126
  | 0 => by simp only [dsum]; split <;> decide
  | j + 1 => by
    have := dsum_le hu hf t j
    have h2 := prod_le (hu.get (1 + j)) (hf.get (t - (1 + j)))
    have h3 := Int.natAbs_sub_le (dsum u f t j) (u.getD (1 + j) 0 * f.getD (t - (1 + j)) 0)
    simp only [dsum]
    rw [Nat.add_mul (j + 1), Nat.one_mul]
    omega
theorem ri_app (l k : List Int) : ri (l ++ k) = ri l ++ ri k := by simp [ri]
def ders (u : List Int) : List Int := (List.range (u.length - 1)).map fun i => ((1 : Int) + i) * u.getD (1 + i) 0
def intg (u : List Int) : List S := .rat 0 1 :: (List.range u.length).map fun i => ratI (u.getD i 0) (i + 1)
theorem ev_first {F : Fm} {Γ : Gam} {μ : Mu} {value : Expr} {i : Nat} {p pos : Pos} {u : List Int} (h0 : u.getD 0 0 = 1) (h1 : 0 < u.length) (hl : u.length ≤ 20) (h : Ev F Γ μ value (.lst (ri u))) : Ev F Γ μ (.Subscript value (.Constant (.int 0) i p) pos) (.r 1 1) := by
  have := ev_ri (pos := pos) (slice := .Constant (.int 0) i p) 0 h ev_int rfl h1 (by omega) plain_int
  rwa [h0] at this
section
variable {c : Cx}

theorem c_sinverse (hc : CxOk c) (u : List Int) (hu : Ok u) (h1 : 0 < u.length) (h0 : u.getD 0 0 = 1) (hw : Ok (invN u u.length)) : CallD c 4 132 [.lst (ri u)] (.lst (ri (invN u u.length))) := by
  refine callD_plain (xs := ["a"]) (out := .ret _) hc.K rfl ?code ⟨rfl, rfl, rfl, rfl, rfl, rfl, rfl, rfl⟩ rfl ?bind ?nd ?cell ?loc ?h (.inl rfl)
  case code => kernel_rfl
  case nd => decide
  case cell => decide
  case loc => decide
  case bind => intro vs h; match vs, h with | [v], _ => rfl
  intro L q cd A h₀ g₀ s₀
  dsimp only
  have l1 := hu.1
  have e1 : (ri u).length ≤ 1000 := by rw [ri_len]; omega
  refine bk_cons (sx_if (c := true && false) (o := .next [("a", .lst (ri u))] none) (et_and (et_cmp (ev_blt (id := "len") (evs_cons (ev_name rfl rfl) evs_nil rfl) (n_len hc) t_len (by decide) rfl rfl rfl rfl (b_len e1)) ev_int c_gt rfl |>.cast (by rw [ri_len]; simp; omega)) fun _ =>
    et_cmp (ev_first h0 h1 l1 (ev_name rfl rfl)) (ev_R0 hc rfl) c_eqS rfl |>.cast (by decide)) (fun h => by cases h) fun _ => bk_nil .refl) ?_
  refine bk_new (d := .lst (ri (invN u 0))) (evn_list (l := []) evs_nil (by simp)) rfl .refl rfl rfl fun a₀ => ?_
  refine bk_cons (sx_for (n := u.length) (Γs := fun i => [("a", .lst (ri u))]) (μs := fun t => some ("found", a₀, .lst (ri (invN u t)))) (src_name (raw_range1 (n := u.length) (ev_blt (id := "len") (evs_cons (ev_name rfl rfl) evs_nil rfl) (n_len hc) t_len (by decide) rfl rfl rfl rfl (b_len e1)) (by rw [ri_len]) (by rw [ri_len]; omega) (n_range hc) rfl rfl) rfl (fun _ _ => rfl))
    (sub_cons rfl sub_nil) (fun i y a d e => by cases e; decide) ?body (fun _ => rfl)) (bk_freeze (bk_ret (sx_ret (ev_name rfl rfl))))
  intro t ht h₀ g₀ s₀
  have hf := invN_ok hw (Nat.le_of_lt ht)
  have l2 := hf.1
  refine bk_cons (sx_assign (d := .r (dsum u (invN u t) t 0) 1) (ev_if (c := decide (t = 0)) (et_cmp (ev_name rfl rfl) ev_int c_eq rfl |>.cast (by by_cases h : t = 0 <;> simp [h])) (fun h => (ev_R1 hc rfl).cast (by have h' : t = 0 := of_decide_eq_true h; simp [dsum, h'])) (fun h => (ev_R0 hc rfl).cast (by simp at h; simp [dsum, h]))) rfl (fun y a d e => by cases e; decide) rfl) ?_
  refine bk_cons (sx_for (n := t) (Γs := fun j => [("total", .r (dsum u (invN u t) t j) 1), ("at", .i t), ("a", .lst (ri u))]) (μs := fun _ => some ("found", a₀, .lst (ri (invN u t)))) (src_name (raw_range2 (n := t) ev_int (ev_add (ev_name rfl rfl) ev_int) (by decide) (by omega) (by omega) (n_range hc) rfl rfl) rfl (fun _ _ => rfl))
    (sub_cons rfl (sub_cons rfl (sub_cons rfl sub_nil))) (fun i y a d e => by cases e; decide) ?inner (fun _ => rfl)) ?rest
  case inner =>
    intro j hj h₀ g₀ s₀
    have p1 := hu.get (1 + j)
    have p2 := hf.get (t - (1 + j))
    have p3 := dsum_le hu hf t j
    have p4 := dsum_le hu hf t (j + 1)
    refine bk_cons (sx_assign (ev_call (c_rsub hc (dsum u (invN u t) t j) (u.getD (1 + j) 0 * (invN u t).getD (t - (1 + j)) 0) (small_of (j + 1) p3 (by omega)) (small_of 1 (by have := prod_le p1 p2; omega) (by decide)) (small_of (j + 1 + 1) p4 (by omega))) (evs_cons (ev_name rfl rfl) (evs_cons (ev_call (c_rmul1 hc (u.getD (1 + j) 0) ((invN u t).getD (t - (1 + j)) 0) (small63 p1) (small63 p2) (small_of 1 (by have := prod_le p1 p2; omega) (by decide))) (evs_cons (ev_ri (1 + j) (ev_name rfl rfl) (ev_name rfl rfl) (by omega) (by omega) (by omega) plain_name) (evs_cons (ev_ri_mu (t - (1 + j)) (ev_sub (ev_name rfl rfl) (ev_name rfl rfl)) (by omega) (by rw [invN_len]; omega) (by rw [invN_len]; omega) plain_bin (by decide)) evs_nil rfl) rfl) (n_rmul hc) (k_rmul hc) (Nat.le_of_ble_eq_true rfl) rfl rfl rfl rfl) evs_nil rfl) rfl) (n_rsub hc) (k_rsub hc) (Nat.le_of_ble_eq_true rfl) rfl rfl rfl rfl) rfl (fun y a d e => by cases e; decide) rfl) ?_
    exact bk_nil (sub_cons rfl (sub_cons rfl (sub_cons rfl sub_nil)))
  case rest =>
    have hb : (dsum u (invN u t) t t).natAbs < 2 ^ 63 := (invN_ok hw (t := t + 1) ht).2 _ (by simp [invN])
    have hb' : (dsum u (invN u t) t t).natAbs < 2 ^ 64 := Nat.lt_trans hb (by decide)
    refine bk_cons (sx_append (l := ri (invN u t)) (y := .rat (dsum u (invN u t) t t) 1)
      (ev_call (c_let hc _ hb') (evs_cons (Ev.cast (d := .s (ratI (dsum u (invN u t) t t) 1)) (d' := .r (dsum u (invN u t) t t) 1) (ev_call (c_rdiv1 hc (dsum u (invN u t) t t) 1 (by decide) (small63 hb) (by unfold Small; decide)) (evs_cons (ev_name rfl rfl) (evs_cons (ev_first h0 h1 l1 (ev_name rfl rfl)) evs_nil rfl) rfl) (n_rdiv hc) (k_rdiv hc) (Nat.le_of_ble_eq_true rfl) rfl rfl rfl rfl) (by rw [ratI_one])) evs_nil rfl) (n_let hc) (k_let hc) (Nat.le_of_ble_eq_true rfl) rfl rfl rfl rfl) (by rw [ri_len]; omega) (by decide) rfl rfl rfl rfl rfl) ?_
    rw [show ri (invN u t) ++ [S.rat (dsum u (invN u t) t t) 1] = ri (invN u (t + 1)) by simp [invN, ri_app, ri]]
    exact bk_nil (sub_cons rfl sub_nil)

theorem c_sderive (hc : CxOk c) (u : List Int) (hu : Ok u) (h1 : 0 < u.length) : CallD c 4 137 [.lst (ri u)] (.lst (ri (ders u))) := by
  refine callD_cells (xs := ["a"]) (out := .ret _) hc.K rfl ?code ⟨rfl, rfl, rfl, rfl, rfl, rfl, rfl, rfl⟩ rfl ?bind ?nd ?loc ?h (.inl rfl)
  case code => kernel_rfl
  case nd => decide
  case loc => decide
  case bind => intro vs h; match vs, h with | [v], _ => rfl
  intro L q cd A h₀ g₀ s₀
  dsimp only
  have l1 := hu.1
  have e1 : (ri u).length ≤ 1000 := by rw [ri_len]; omega
  refine bk_ret (sx_ret (Evn.ev (Evn.cast (evn_comp (n := u.length - 1) (out := fun i => .rat (((1 : Int) + i) * u.getD (1 + i) 0) 1) (Γc := [("a", .lst (ri u))]) (raw_range2 ev_int (ev_blt (id := "len") (evs_cons (ev_name rfl rfl) evs_nil rfl) (n_len hc) t_len (by decide) rfl rfl rfl rfl (b_len e1)) (by decide) ?n1 ?n2 (n_range hc) rfl rfl)
    ?helt rfl (by decide) rfl (by decide) rfl (around_cons rfl rfl rfl rfl around_nil) (by omega) (fun _ _ => rfl) (fun _ => rfl)) ?fin)))
  case n1 => rw [ri_len]; omega
  case n2 => rw [ri_len]; omega
  case fin => simp [ri, ders, List.map_map, Function.comp_def]
  case helt =>
    intro i hi C h₀ g₀ s₀
    have p1 := hu.get (1 + i)
    have p2 : ((1 : Int) + i).natAbs < 2 ^ 63 := by omega
    exact (ev_call (c_rmul1 hc ((1 : Int) + i) (u.getD (1 + i) 0) (small63 p2) (small63 p1) (small_of 1 (by have := prod_le p2 p1; omega) (by decide))) (evs_cons (ev_pair (evs_cons (ev_name rfl rfl) (evs_cons ev_int evs_nil rfl) rfl)) (evs_cons (ev_ri (1 + i) (ev_name rfl rfl) (ev_name rfl rfl) (by omega) (by omega) (by omega) plain_name) evs_nil rfl) rfl) (n_rmul hc) (k_rmul hc) (Nat.le_of_ble_eq_true rfl) rfl rfl rfl rfl)
theorem c_sintegrate (hc : CxOk c) (u : List Int) (hu : Ok u) : CallD c 4 142 [.lst (ri u)] (.lst (intg u)) := by
  refine callD_cells (xs := ["a"]) (out := .ret _) hc.K rfl ?code ⟨rfl, rfl, rfl, rfl, rfl, rfl, rfl, rfl⟩ rfl ?bind ?nd ?loc ?h (.inl rfl)
  case code => kernel_rfl
  case nd => decide
  case loc => decide
  case bind => intro vs h; match vs, h with | [v], _ => rfl
  intro L q cd A h₀ g₀ s₀
  dsimp only
  have l1 := hu.1
  have e1 : (ri u).length ≤ 1000 := by rw [ri_len]; omega
  refine bk_ret (sx_ret (Evn.ev (Evn.cast (ev_add_lists (Evn.ev (evn_list (l := [.rat 0 1]) (evs_cons (ev_R0 hc rfl) evs_nil rfl) (by simp))) (Evn.ev (evn_comp (n := u.length) (out := fun i => ratI (u.getD i 0) (i + 1)) (Γc := [("a", .lst (ri u))]) (raw_range1 (ev_blt (id := "len") (evs_cons (ev_name rfl rfl) evs_nil rfl) (n_len hc) t_len (by decide) rfl rfl rfl rfl (b_len e1)) ?n1 ?n2 (n_range hc) rfl rfl)
    ?helt rfl (by decide) rfl (by decide) rfl (around_cons rfl rfl rfl rfl around_nil) (by omega) (fun _ _ => rfl) (fun _ => rfl))) (by simp; omega)) ?fin)))
  case n1 => rw [ri_len]
  case n2 => rw [ri_len]; omega
  case fin => rfl
  case helt =>
    intro i hi C h₀ g₀ s₀
    have p1 := hu.get i
    have p2 : ((i : Int) + 1).natAbs < 2 ^ 63 := by omega
    exact (ev_call (c_rdiv1 hc (u.getD i 0) ((i : Int) + 1) (by omega) (small63 p1) (small63 p2)) (evs_cons (ev_ri i (ev_name rfl rfl) (ev_name rfl rfl) rfl (by omega) (by omega) plain_name) (evs_cons (ev_pair (evs_cons (ev_add (ev_name rfl rfl) ev_int) (evs_cons ev_int evs_nil rfl) rfl)) evs_nil rfl) rfl) (n_rdiv hc) (k_rdiv hc) (Nat.le_of_ble_eq_true rfl) rfl rfl rfl rfl)

end
end Mine

namespace Mine
local macro_rules | `(tactic| walk_at "SD") => `(tactic| first | assumption | (unfold Small; decide) | omega | (simp only [Small] at *; omega) | fail "SD")

def rr (tu : List Int) (m : Nat) : Nat → List Int
  | 0 => tu
  | i + 1 => if 1 + i < m then convs (rr tu m i) tu else rr tu m i
def rv (tu : List Int) (m : Nat) : Nat → List Int
  | 0 => [0]
  | i + 1 => rv tu m i ++ [(rr tu m i).getD i 0 / ((1 : Int) + i)]
theorem rr_len (tu : List Int) (m : Nat) : ∀ i, (rr tu m i).length = tu.length
  | 0 => rfl
  | i + 1 => by simp only [rr]; split <;> simp [convs_len, rr_len tu m i]
theorem rv_len (tu : List Int) (m : Nat) : ∀ i, (rv tu m i).length = i + 1
  | 0 => rfl
  | i + 1 => by simp [rv, rv_len tu m i]
theorem ratI_dvd {x b : Int} (hb : 0 < b) (hd : b ∣ x) : ratI x b = .rat (x / b) 1 := by
  obtain ⟨k, rfl⟩ := hd
  have hg : Int.gcd (b * k) b = b.natAbs := by
    show Nat.gcd (b * k).natAbs b.natAbs = b.natAbs
    rw [Int.natAbs_mul]
    exact Nat.gcd_eq_right (Nat.dvd_mul_right _ _)
  have hn : (b.natAbs : Int) = b := by omega
  simp only [ratI, hg, hn]
  rw [Int.fdiv_eq_ediv_of_nonneg _ (by omega), Int.fdiv_eq_ediv_of_nonneg _ (by omega), Int.ediv_self (by omega)]
def wpow : Nat → List Int → List Int → Nat → List Int
  | 0, f, _, _ => f
  | n + 1, f, b, l => if l = 0 then f else wpow n (if l % 2 = 1 then convs f b else f) (if 0 < l / 2 then convs b b else b) (l / 2)
def wpOk : Nat → List Int → List Int → Nat → Prop
  | 0, _, _, l => l = 0
  | n + 1, f, b, l => if l = 0 then True else Ok f ∧ Ok b ∧ (l % 2 = 1 → Ok (convs f b)) ∧ (0 < l / 2 → Ok (convs b b)) ∧ wpOk n (if l % 2 = 1 then convs f b else f) (if 0 < l / 2 then convs b b else b) (l / 2)
theorem fmod2 (l : Nat) : ((l : Int)).fmod 2 = ((l % 2 : Nat) : Int) := by rw [Int.fmod_eq_emod_of_nonneg _ (by omega)]; rfl
theorem fdiv2 (l : Nat) : ((l : Int)).fdiv 2 = ((l / 2 : Nat) : Int) := by rw [Int.fdiv_eq_ediv_of_nonneg _ (by omega)]; rfl
section
variable {c : Cx}

theorem c_sreverse (hc : CxOk c) (w : List Int) (h1 : 0 < w.length) (hw : Ok w) (hl : w.length ≤ 18) (h0 : w.getD 0 0 = 1) (hi : Ok (invN w w.length)) (hr : ∀ i, i < w.length → Ok (rr (invN w w.length) w.length i) ∧ ((1 : Int) + i) ∣ (rr (invN w w.length) w.length i).getD i 0) :
    CallD c 6 156 [.lst (ri (0 :: w))] (.lst (ri (rv (invN w w.length) w.length w.length))) := by
  refine callD_plain (xs := ["a"]) (out := .ret _) hc.K rfl ?code ⟨rfl, rfl, rfl, rfl, rfl, rfl, rfl, rfl⟩ rfl ?bind ?nd ?cell ?loc ?h (.inl rfl)
  case code => kernel_rfl
  case nd => decide
  case cell => decide
  case loc => decide
  case bind => intro vs h; match vs, h with | [v], _ => rfl
  intro L q cd A h₀ g₀ s₀
  dsimp only
  have l1 := hw.1
  have el : (ri (0 :: w)).length = w.length + 1 := by rw [ri_len]; simp
  have e1 : (ri (0 :: w)).length ≤ 1000 := by omega
  have cn : CallD c 2 149 [.lst (ri (0 :: w)), .r 0 1] .none := c_need hc 0 (ri w) (by unfold Small; decide) (by rw [ri_len]; omega)
  refine bk_cons (sx_expr_none (ev_call cn (evs_cons (ev_name rfl rfl) (evs_cons (ev_R0 hc rfl) evs_nil rfl) rfl) (n_need_begin hc) (k_need_begin hc) (Nat.le_of_ble_eq_true rfl) rfl rfl rfl rfl) rfl rfl) ?_
  refine bk_cons (sx_if (c := false) (o := .next [("a", .lst (ri (0 :: w)))] none) (et_cmp (ev_blt (id := "len") (evs_cons (ev_name rfl rfl) evs_nil rfl) (n_len hc) t_len (by decide) rfl rfl rfl rfl (b_len e1)) ev_int c_lt rfl |>.cast (by rw [el]; simp; omega)) (fun h => by cases h) fun _ => bk_nil .refl) ?_
  refine bk_cons (sx_assign (d := .lst (ri (invN w w.length))) (ev_call (c_sinverse hc w hw h1 h0 hi) (evs_cons (Ev.cast (Evn.ev (ev_from (ev_name rfl rfl) ev_int (by decide) e1 (fun _ _ => rfl) (fun _ _ => rfl))) rfl) evs_nil rfl) (n_sinverse hc) (k_sinverse hc) (Nat.le_of_ble_eq_true rfl) rfl rfl rfl rfl) rfl (fun _ _ _ e => by cases e) rfl) ?_
  refine bk_tup2_new (d₁ := .lst (ri (rv (invN w w.length) w.length 0))) (d₂ := .lst (ri (rr (invN w w.length) w.length 0))) (evn_list (l := [.rat 0 1]) (evs_cons (ev_R0 hc rfl) evs_nil rfl) (by simp)) (ev_name rfl rfl) rfl rfl rfl rfl rfl rfl rfl rfl fun a₀ => ?_
  refine bk_cons (sx_for (n := w.length) (Γs := fun i => [("raised", .lst (ri (rr (invN w w.length) w.length i))), ("turned", .lst (ri (invN w w.length))), ("a", .lst (ri (0 :: w)))]) (μs := fun i => some ("found", a₀, .lst (ri (rv (invN w w.length) w.length i)))) (src_name (raw_range2 (n := w.length) ev_int (ev_blt (id := "len") (evs_cons (ev_name rfl rfl) evs_nil rfl) (n_len hc) t_len (by decide) rfl rfl rfl rfl (b_len e1)) (by decide) (by rw [el]; omega) (by omega) (n_range hc) rfl rfl) rfl (fun _ _ => rfl))
    (sub_cons rfl (sub_cons rfl (sub_cons rfl sub_nil))) (fun i y a d e => by cases e; decide) ?body (fun _ => rfl)) (bk_freeze (bk_ret (sx_ret (ev_name rfl rfl))))
  intro i hi' h₀ g₀ s₀
  obtain ⟨o1, o2⟩ := hr i hi'
  have p1 := o1.get i
  have p2 : ((1 : Int) + i).natAbs < 2 ^ 63 := by omega
  refine bk_cons (sx_append (l := ri (rv (invN w w.length) w.length i)) (y := .rat ((rr (invN w w.length) w.length i).getD i 0 / ((1 : Int) + i)) 1)
    (Ev.cast (ev_call (c_rdiv1 hc ((rr (invN w w.length) w.length i).getD i 0) ((1 : Int) + i) (by omega) (small63 p1) (small63 p2)) (evs_cons (ev_ri i (ev_name rfl rfl) (ev_sub (ev_name rfl rfl) ev_int) (by omega) (by rw [rr_len, invN_len]; omega) (by rw [rr_len, invN_len]; omega) plain_bin) (evs_cons (ev_pair (evs_cons (ev_name rfl rfl) (evs_cons ev_int evs_nil rfl) rfl)) evs_nil rfl) rfl) (n_rdiv hc) (k_rdiv hc) (Nat.le_of_ble_eq_true rfl) rfl rfl rfl rfl) (by rw [ratI_dvd (by omega) o2])) (by rw [ri_len, rv_len]; omega) (by decide) rfl rfl rfl rfl rfl) ?_
  rw [show ri (rv (invN w w.length) w.length i) ++ [S.rat ((rr (invN w w.length) w.length i).getD i 0 / ((1 : Int) + i)) 1] = ri (rv (invN w w.length) w.length (i + 1)) by simp [rv, ri]]
  refine bk_cons (sx_assign (d := .lst (ri (rr (invN w w.length) w.length (i + 1)))) (ev_if (c := decide (1 + i < w.length)) (et_cmp (ev_name rfl rfl) (ev_sub (ev_blt (id := "len") (evs_cons (ev_name rfl rfl) evs_nil rfl) (n_len hc) t_len (by decide) rfl rfl rfl rfl (b_len e1)) ev_int) c_lt rfl |>.cast (by rw [el]; by_cases h : 1 + i < w.length <;> simp [h] <;> omega))
    (fun h => ?tt) (fun h => ?ff)) rfl (fun y a d e => by cases e; decide) rfl) (bk_nil (sub_cons rfl (sub_cons rfl (sub_cons rfl sub_nil))))
  case tt =>
    have h' : 1 + i < w.length := of_decide_eq_true h
    have e : rr (invN w w.length) w.length (i + 1) = convs (rr (invN w w.length) w.length i) (invN w w.length) := by simp only [rr]; rw [if_pos h']
    have o3 := (hr (i + 1) (by omega)).1
    rw [e] at o3 ⊢
    exact (ev_call (c_smul hc _ _ o1 hi o3) (evs_cons (ev_name rfl rfl) (evs_cons (ev_name rfl rfl) evs_nil rfl) rfl) (n_smul hc) (k_smul hc) (Nat.le_of_ble_eq_true rfl) rfl rfl rfl rfl)
  case ff =>
    have h' : ¬ 1 + i < w.length := of_decide_eq_false h
    have e : rr (invN w w.length) w.length (i + 1) = rr (invN w w.length) w.length i := by simp only [rr]; rw [if_neg h']
    rw [e]
    exact (ev_name rfl rfl)

theorem c_slog (hc : CxOk c) (y : List Int) (hu : Ok (1 :: y)) (hi : Ok (invN (1 :: y) (y.length + 1))) (hd : Ok (ders (1 :: y))) (hv : Ok (convs (ders (1 :: y)) (invN (1 :: y) (y.length + 1)))) :
    CallD c 6 163 [.lst (ri (1 :: y))] (.lst (intg (convs (ders (1 :: y)) (invN (1 :: y) (y.length + 1))))) := by
  refine callD_plain (xs := ["a"]) (out := .ret _) hc.K rfl ?code ⟨rfl, rfl, rfl, rfl, rfl, rfl, rfl, rfl⟩ rfl ?bind ?nd ?cell ?loc ?h (.inl rfl)
  case code => kernel_rfl
  case nd => decide
  case cell => decide
  case loc => decide
  case bind => intro vs h; match vs, h with | [v], _ => rfl
  intro L q cd A h₀ g₀ s₀
  dsimp only
  have l1 := hu.1
  have el : (ri (1 :: y)).length = y.length + 1 := by rw [ri_len]; simp
  have l2 : y.length + 1 ≤ 20 := by simpa using l1
  have e1 : (ri (1 :: y)).length ≤ 1000 := by omega
  have cn : CallD c 2 149 [.lst (ri (1 :: y)), .r 1 1] .none := c_need hc 1 (ri y) (by unfold Small; decide) (by rw [ri_len]; omega)
  refine bk_cons (sx_expr_none (ev_call cn (evs_cons (ev_name rfl rfl) (evs_cons (ev_R1 hc rfl) evs_nil rfl) rfl) (n_need_begin hc) (k_need_begin hc) (Nat.le_of_ble_eq_true rfl) rfl rfl rfl rfl) rfl rfl) ?_
  refine bk_cons (sx_if (c := false) (o := .next [("a", .lst (ri (1 :: y)))] none) (et_cmp (ev_blt (id := "len") (evs_cons (ev_name rfl rfl) evs_nil rfl) (n_len hc) t_len (by decide) rfl rfl rfl rfl (b_len e1)) ev_int c_eq rfl |>.cast (by rw [el]; simp; omega)) (fun h => by cases h) fun _ => bk_nil .refl) ?_
  exact bk_ret (sx_ret (ev_call (c_sintegrate hc _ hv) (evs_cons (ev_call (c_smul hc _ _ hd hi hv) (evs_cons (ev_call (c_sderive hc _ hu (by simp)) (evs_cons (ev_name rfl rfl) evs_nil rfl) (n_sderive hc) (k_sderive hc) (Nat.le_of_ble_eq_true rfl) rfl rfl rfl rfl) (evs_cons (ev_call (c_sinverse hc (1 :: y) hu (by simp) rfl hi) (evs_cons (ev_name rfl rfl) evs_nil rfl) (n_sinverse hc) (k_sinverse hc) (Nat.le_of_ble_eq_true rfl) rfl rfl rfl rfl) evs_nil rfl) rfl) (n_smul hc) (k_smul hc) (Nat.le_of_ble_eq_true rfl) rfl rfl rfl rfl) evs_nil rfl) (n_sintegrate hc) (k_sintegrate hc) (Nat.le_of_ble_eq_true rfl) rfl rfl rfl rfl))

theorem c_swhole (hc : CxOk c) (u : List Int) (k n : Nat) (h1 : 0 < u.length) (hl : u.length ≤ 20) (hk : k ≤ 1000) (hn : wpOk n (1 :: List.replicate (u.length - 1) 0) u k) :
    CallD c 6 170 [.lst (ri u), .i k] (.lst (ri (wpow n (1 :: List.replicate (u.length - 1) 0) u k))) := by
  refine callD_plain (xs := ["a", "many"]) (out := .ret _) hc.K rfl ?code ⟨rfl, rfl, rfl, rfl, rfl, rfl, rfl, rfl⟩ rfl ?bind ?nd ?cell ?loc ?h (.inl rfl)
  case code => kernel_rfl
  case nd => decide
  case cell => decide
  case loc => decide
  case bind => intro vs h; match vs, h with | [v, u], _ => rfl
  intro L q cd A h₀ g₀ s₀
  dsimp only
  have e1 : (ri u).length ≤ 1000 := by rw [ri_len]; omega
  refine bk_cons (sx_assign (d := .lst (ri u)) (ev_if (c := false) (et_cmp (ev_name rfl rfl) ev_int c_lt rfl |>.cast (by simp)) (fun h => by cases h) (fun _ => (ev_name rfl rfl))) rfl (fun _ _ _ e => by cases e) rfl) ?_
  have cc : CallD c 1 106 [.lst [.rat 1 1], .i (ri u).length] (.lst (ri (1 :: List.replicate (u.length - 1) 0))) := by
    have := c_cut hc u.length h1 (by omega)
    rw [ri_len]
    simpa [ri] using this
  refine bk_cons (sx_tup2 (d₁ := .lst (ri (1 :: List.replicate (u.length - 1) 0))) (d₂ := .i k) (ev_call cc (evs_cons (Evn.ev (evn_list (l := [.rat 1 1]) (evs_cons (ev_R1 hc rfl) evs_nil rfl) (by simp))) (evs_cons (ev_blt (id := "len") (evs_cons (ev_name rfl rfl) evs_nil rfl) (n_len hc) t_len (by decide) rfl rfl rfl rfl (b_len e1)) evs_nil rfl) rfl) (n_cut hc) (k_cut hc) (Nat.le_of_ble_eq_true rfl) rfl rfl rfl rfl) (Ev.cast (ev_blt (id := "abs") (evs_cons (ev_name rfl rfl) evs_nil rfl) (n_abs hc) t_abs (by decide) rfl rfl rfl rfl b_abs) (by simp; omega)) rfl rfl (fun _ _ _ e => by cases e) rfl rfl rfl rfl) ?_
  generalize ((1 : Int) :: List.replicate (u.length - 1) (0 : Int)) = f at hn ⊢
  refine bk_cons (sx_while (o := .next [("found", .lst (ri (wpow n f u k)))] none) ?_) (bk_ret (sx_ret (ev_name rfl rfl)))
  refine wl_weak (Γ' := [("found", .lst (ri f)), ("base", .lst (ri u)), ("left", .i k)]) (sub_cons rfl (sub_cons rfl (sub_cons rfl sub_nil))) ?_
  clear cc e1 h1 hl
  induction n generalizing f u k with
  | zero =>
    have hn : k = 0 := hn
    subst hn
    exact Wl.weakPost (wl_false (Et.cast (et_cmp (ev_name rfl rfl) ev_int c_gt rfl) (by simp))) (sub_cons rfl sub_nil)
  | succ n ih =>
    by_cases hz : k = 0
    · subst hz
      simp only [wpow, if_true]
      exact Wl.weakPost (wl_false (Et.cast (et_cmp (ev_name rfl rfl) ev_int c_gt rfl) (by simp))) (sub_cons rfl sub_nil)
    · simp only [wpow, wpOk, if_neg hz] at hn ⊢
      obtain ⟨o1, o2, o3, o4, o5⟩ := hn
      refine wl_true (Γ₁ := [("found", .lst (ri (if k % 2 = 1 then convs f u else f))), ("base", .lst (ri (if 0 < k / 2 then convs u u else u))), ("left", .i (k / 2 : Nat))]) (μ₁ := none) (Et.cast (et_cmp (ev_name rfl rfl) ev_int c_gt rfl) (by simp; omega)) ?_ (ih _ _ (by omega) _ o5)
      refine bk_cons (sx_if (c := decide (k % 2 = 1)) (o := .next [("found", .lst (ri (if k % 2 = 1 then convs f u else f))), ("base", .lst (ri u)), ("left", .i k)] none) (et_cmp (ev_mod (ev_name rfl rfl) ev_int (by decide)) ev_int c_eq rfl |>.cast (by rw [fmod2]; by_cases h : k % 2 = 1 <;> simp [h] <;> omega)) (fun h => ?tt) (fun h => ?ff)) ?_
      case tt =>
        have h' : k % 2 = 1 := of_decide_eq_true h
        rw [if_pos h']
        exact bk_cons (sx_assign (ev_call (c_smul hc _ _ o1 o2 (o3 h')) (evs_cons (ev_name rfl rfl) (evs_cons (ev_name rfl rfl) evs_nil rfl) rfl) (n_smul hc) (k_smul hc) (Nat.le_of_ble_eq_true rfl) rfl rfl rfl rfl) rfl (fun _ _ _ e => by cases e) rfl) (bk_nil (sub_cons rfl (sub_cons rfl (sub_cons rfl sub_nil))))
      case ff =>
        have h' : ¬ k % 2 = 1 := of_decide_eq_false h
        rw [if_neg h']
        exact bk_nil .refl
      generalize (if k % 2 = 1 then convs f u else f) = f'
      refine bk_cons (sx_assign (d := .i (k / 2 : Nat)) (Ev.cast (ev_floordiv (ev_name rfl rfl) ev_int (Nat.lt_of_le_of_lt (m := 1000) (by omega) (by decide)) (by decide)) (by rw [fdiv2])) rfl (fun _ _ _ e => by cases e) rfl) ?_
      refine bk_cons (sx_assign (d := .lst (ri (if 0 < k / 2 then convs u u else u))) (ev_if (c := decide (0 < k / 2)) (et_cmp (ev_name rfl rfl) ev_int c_gt rfl |>.cast (by by_cases h : 0 < k / 2 <;> simp [h] <;> omega)) (fun h => ?t2) (fun h => ?f2)) rfl (fun _ _ _ e => by cases e) rfl) (bk_nil (sub_cons rfl (sub_cons rfl (sub_cons rfl sub_nil))))
      case t2 =>
        have h' : 0 < k / 2 := of_decide_eq_true h
        rw [if_pos h']
        exact (ev_call (c_smul hc _ _ o2 o2 (o4 h')) (evs_cons (ev_name rfl rfl) (evs_cons (ev_name rfl rfl) evs_nil rfl) rfl) (n_smul hc) (k_smul hc) (Nat.le_of_ble_eq_true rfl) rfl rfl rfl rfl)
      case f2 =>
        have h' : ¬ 0 < k / 2 := of_decide_eq_false h
        rw [if_neg h']
        exact (ev_name rfl rfl)

end
end Mine

namespace Mine
local macro_rules | `(tactic| walk_at "SD") => `(tactic| first | assumption | (unfold Small; decide) | omega | (simp only [Small] at *; omega) | fail "SD")

theorem bne_dec (x : Int) : (x != 0) = decide (x ≠ 0) := by by_cases h : x = 0 <;> simp [h]
def li (l : List Int) : List S := l.map .int
theorem li_len (l : List Int) : (li l).length = l.length := by simp [li]
theorem li_getD (l : List Int) (i : Nat) : (li l).getD i (.int 0) = .int (l.getD i 0) := by
  simp only [li, List.getD, List.getElem?_map]
  cases l[i]? <;> rfl
theorem li_get {l : List Int} {k : Nat} (h : k < l.length) : (li l)[k]? = some (.int (l.getD k 0)) := by
  simp [li, List.getD, List.getElem?_eq_getElem h]
theorem li_set (l : List Int) (k : Nat) (v : Int) : (li l).set k (.int v) = li (l.set k v) := by
  simp only [li, List.map_set]
theorem src_enum_li {F : Fm} {Γ : Gam} {μ : Mu} {e : Expr} {np pos : Pos} {xi xv : Str} {pi pv pt : Pos} {k : Nat} {l : List Int} (he : Ev F Γ μ e (.lst (li l))) (hz : l.length ≤ 1000)
    (hg : nsIn F.c.K mainGlobals "enumerate" = some none) (hk : F.env.kindOf "enumerate" = some .globalImplicit) (hs : starEach [e] F.env = [(false, eval e F.env)])
    (hxi : F.env.kindOf xi = some .local) (hxv : F.env.kindOf xv = some .local) :
    Src F Γ μ (.Call (.Name "enumerate" np) [e] [] pos) (.Tuple [.Name xi pi, .Name xv pv] k pt) [xi, xv] l.length (fun i => [(xv, .i (l.getD i 0)), (xi, .i i)]) := by
  have := src_enum (np := np) (pos := pos) (pi := pi) (pv := pv) (pt := pt) (k := k) he (by rw [li_len]; exact hz) hg hk hs hxi hxv
  rw [li_len] at this
  simpa only [li_getD] using this

def zin (f : List Int) (one : Nat) (x : Int) (b : List Int) : Nat → List Int
  | 0 => f
  | j + 1 => (zin f one x b j).set (one + j) ((zin f one x b j).getD (one + j) 0 + x * b.getD j 0)
theorem zin_len (f : List Int) (one : Nat) (x : Int) (b : List Int) : ∀ j, (zin f one x b j).length = f.length
  | 0 => rfl
  | j + 1 => by simp [zin, zin_len f one x b j]
def zout (a b f : List Int) : Nat → List Int
  | 0 => f
  | i + 1 => if a.getD i 0 = 0 then zout a b f i else zin (zout a b f i) i (a.getD i 0) b b.length
theorem zout_len (a b f : List Int) : ∀ i, (zout a b f i).length = f.length
  | 0 => rfl
  | i + 1 => by simp only [zout]; split <;> simp [zin_len, zout_len a b f i]
def zm (a b : List Int) : List Int := zout a b (List.replicate (a.length + b.length - 1) 0) a.length
theorem zm_len (a b : List Int) : (zm a b).length = a.length + b.length - 1 := by simp [zm, zout_len]
def zpw : Nat → List Int → List Int → Nat → List Int
  | 0, f, _, _ => f
  | n + 1, f, g, l => if l = 0 then f else zpw n (if l % 2 = 1 then zm f g else f) (if 1 < l then zm g g else g) (l / 2)
def zpOk : Nat → List Int → List Int → Nat → Prop
  | 0, _, _, l => l = 0
  | n + 1, f, g, l => if l = 0 then True else Ok f ∧ Ok g ∧ f ≠ [] ∧ g ≠ [] ∧ zpOk n (if l % 2 = 1 then zm f g else f) (if 1 < l then zm g g else g) (l / 2)

theorem dput_len (l : List (Int × Int)) (k v : Int) : (dput l k v).length ≤ l.length + 1 := by
  unfold dput; split <;> simp
def ws1 (ab : Bool) (w : List Int) (h wt : Int) (d : List (Int × Int)) : Nat → List (Int × Int)
  | 0 => d
  | j + 1 => if w.getD j 0 ≠ 0 ∧ (0 < h + 1 - (j : Int) ∨ ab = false) then dput (ws1 ab w h wt d j) (h + 1 - j) (dget (ws1 ab w h wt d j) (h + 1 - j) 0 + wt * w.getD j 0) else ws1 ab w h wt d j
theorem ws1_len (ab : Bool) (w : List Int) (h wt : Int) (d : List (Int × Int)) : ∀ j, (ws1 ab w h wt d j).length ≤ d.length + j
  | 0 => Nat.le_refl _
  | j + 1 => by
    have := ws1_len ab w h wt d j
    simp only [ws1]
    split
    · exact Nat.le_trans (dput_len _ _ _) (by omega)
    · omega
def ws2 (ab : Bool) (w : List Int) (f : List (Int × Int)) : Nat → List (Int × Int)
  | 0 => []
  | i + 1 => ws1 ab w (f.getD i (0, 0)).1 (f.getD i (0, 0)).2 (ws2 ab w f i) w.length
theorem ws2_len (ab : Bool) (w : List Int) (f : List (Int × Int)) : ∀ i, (ws2 ab w f i).length ≤ i * w.length
  | 0 => by simp [ws2]
  | i + 1 => by
    have := ws2_len ab w f i
    have := ws1_len ab w (f.getD i (0, 0)).1 (f.getD i (0, 0)).2 (ws2 ab w f i) w.length
    simp only [ws2]
    rw [Nat.add_mul, Nat.one_mul]
    omega
def ways (ab : Bool) (w : List Int) : Nat → List (Int × Int)
  | 0 => [(0, 1)]
  | t + 1 => ws2 ab w (ways ab w t) (ways ab w t).length
def OkD (f : List (Int × Int)) : Prop := f.length ≤ 50 ∧ ∀ x ∈ f, x.2.natAbs < 2 ^ 63
theorem OkD.get {f : List (Int × Int)} (h : OkD f) (i : Nat) : ((f.getD i (0, 0)).2).natAbs < 2 ^ 63 := by
  by_cases hi : i < f.length
  · rw [show f.getD i (0, 0) = f[i] by simp [List.getD, List.getElem?_eq_getElem hi]]
    exact h.2 _ (List.getElem_mem hi)
  · rw [show f.getD i (0, 0) = (0, 0) by simp [List.getD, List.getElem?_eq_none (Nat.le_of_not_lt hi)]]
    decide
section
variable {c : Cx}

theorem c_zmul (hc : CxOk c) (a b : List Int) (ha : Ok a) (hb : Ok b) (a0 : a ≠ []) (b0 : b ≠ []) : CallD c 1 177 [.lst (li a), .lst (li b)] (.lst (li (zm a b))) := by
  refine callD_plain (xs := ["a", "b"]) (out := .ret _) hc.K rfl ?code ⟨rfl, rfl, rfl, rfl, rfl, rfl, rfl, rfl⟩ rfl ?bind ?nd ?cell ?loc ?h (.inl rfl)
  case code => kernel_rfl
  case nd => decide
  case cell => decide
  case loc => decide
  case bind => intro vs h; match vs, h with | [v, u], _ => rfl
  intro L q cd A h₀ g₀ s₀
  dsimp only
  have l1 := ha.1
  have l2 := hb.1
  have n1 : 0 < a.length := List.length_pos_iff.mpr a0
  have n2 : 0 < b.length := List.length_pos_iff.mpr b0
  have e1 : (li a).length ≤ 1000 := by rw [li_len]; omega
  have e2 : (li b).length ≤ 1000 := by rw [li_len]; omega
  refine bk_cons (sx_if (c := false || false) (o := .next [("a", .lst (li a)), ("b", .lst (li b))] none) (et_or (et_cmp (ev_blt (id := "len") (evs_cons (ev_name rfl rfl) evs_nil rfl) (n_len hc) t_len (by decide) rfl rfl rfl rfl (b_len e1)) ev_int c_eq rfl |>.cast (by rw [li_len]; simp; exact a0)) fun _ =>
    et_cmp (ev_blt (id := "len") (evs_cons (ev_name rfl rfl) evs_nil rfl) (n_len hc) t_len (by decide) rfl rfl rfl rfl (b_len e2)) ev_int c_eq rfl |>.cast (by rw [li_len]; simp; exact b0)) (fun h => by cases h) fun _ => bk_nil .refl) ?_
  have hrep : ((List.replicate (((li a).length : Int) + ((li b).length : Int) - 1).toNat [S.int 0]).flatten) = li (List.replicate (a.length + b.length - 1) 0) := by
    rw [li_len, li_len, show ((a.length : Int) + (b.length : Int) - 1).toNat = a.length + b.length - 1 by omega]
    generalize a.length + b.length - 1 = n
    induction n with
    | zero => rfl
    | succ n ih => simp only [List.replicate_succ, List.flatten_cons, ih]; rfl
  refine bk_new (d := .lst (li (zout a b (List.replicate (a.length + b.length - 1) 0) 0))) (Evn.cast (ev_mul_list (l := [.int 0]) (evs_cons ev_int evs_nil rfl) (ev_sub (ev_add (ev_blt (id := "len") (evs_cons (ev_name rfl rfl) evs_nil rfl) (n_len hc) t_len (by decide) rfl rfl rfl rfl (b_len e1)) (ev_blt (id := "len") (evs_cons (ev_name rfl rfl) evs_nil rfl) (n_len hc) t_len (by decide) rfl rfl rfl rfl (b_len e2))) ev_int) (by rw [li_len, li_len]; omega) (by rw [li_len, li_len]; omega) (by simp) (by simp) (by simp only [List.length_singleton, Nat.one_mul]; rw [li_len, li_len]; omega)) (by rw [hrep]; rfl)) rfl .refl rfl rfl fun a₀ => ?_
  have zl := zout_len a b (List.replicate (a.length + b.length - 1) 0)
  refine bk_cons (sx_for (n := a.length) (Γs := fun i => [("a", .lst (li a)), ("b", .lst (li b))]) (μs := fun i => some ("found", a₀, .lst (li (zout a b (List.replicate (a.length + b.length - 1) 0) i)))) (src_enum_li (ev_name rfl rfl) (by omega) (n_enumerate hc) rfl rfl rfl rfl)
    (sub_cons rfl (sub_cons rfl sub_nil)) (fun i y a d e => by cases e; decide) ?body (fun _ => rfl)) (bk_freeze (bk_ret (sx_ret (ev_name rfl rfl))))
  intro i hi h₀ g₀ s₀
  have zi : (zout a b (List.replicate (a.length + b.length - 1) 0) i).length = a.length + b.length - 1 := by rw [zl]; simp
  refine bk_cons (sx_if (c := decide (a.getD i 0 ≠ 0)) (o := .next [("a", .lst (li a)), ("b", .lst (li b))] (some ("found", a₀, .lst (li (zout a b (List.replicate (a.length + b.length - 1) 0) (i + 1)))))) (et_cmp (ev_name rfl rfl) ev_int c_ne rfl |>.cast (bne_dec _)) (fun h => ?tt) (fun h => ?ff)) (bk_nil .refl)
  case ff =>
    have h' : a.getD i 0 = 0 := by
      have := of_decide_eq_false h
      exact Decidable.not_not.mp this
    simp only [zout]
    rw [if_pos h']
    exact bk_nil (sub_cons rfl (sub_cons rfl sub_nil))
  case tt =>
    have h' : ¬ a.getD i 0 = 0 := of_decide_eq_true h
    simp only [zout]
    rw [if_neg h']
    generalize zout a b (List.replicate (a.length + b.length - 1) 0) i = f at zi ⊢
    refine bk_cons (sx_for (n := b.length) (Γs := fun j => [("left", .i (a.getD i 0)), ("one", .i i), ("a", .lst (li a)), ("b", .lst (li b))]) (μs := fun j => some ("found", a₀, .lst (li (zin f i (a.getD i 0) b j)))) (src_enum_li (ev_name rfl rfl) (by omega) (n_enumerate hc) rfl rfl rfl rfl)
      (sub_cons rfl (sub_cons rfl (sub_cons rfl (sub_cons rfl sub_nil)))) (fun i y a d e => by cases e; decide) ?inner (fun _ => rfl)) (bk_nil (sub_cons rfl (sub_cons rfl sub_nil)))
    intro j hj h₀ g₀ s₀
    have p1 := ha.get i
    have p2 := hb.get j
    have fl := zin_len f i (a.getD i 0) b j
    refine bk_cons (sx_aug (k := ((i + j : Nat) : Int)) (i := (zin f i (a.getD i 0) b j).getD (i + j) 0) (j := a.getD i 0 * b.getD j 0) (Ev.cast (ev_add (ev_name rfl rfl) (ev_name rfl rfl)) (by simp)) (ev_mul (ev_name rfl rfl) (ev_name rfl rfl) (small63 p1) (small63 p2)) (by omega) (by rw [li_len, fl]; omega) (li_get (by rw [fl]; omega)) (by rw [li_len, fl]; omega) (by decide) (fun _ _ _ => rfl)) ?_
    rw [show ((i + j : Nat) : Int).toNat = i + j by omega, li_set]
    exact bk_nil (sub_cons rfl (sub_cons rfl (sub_cons rfl (sub_cons rfl sub_nil))))

theorem c_zpower (hc : CxOk c) (p : List Int) (k n : Nat) (hp : Ok p) (hk : k ≤ 1000) (hn : zpOk n [1] p k) :
    CallD c 2 184 [.lst (li p), .i k] (.lst (li (zpw n [1] p k))) := by
  refine callD_plain (xs := ["p", "many"]) (out := .ret _) hc.K rfl ?code ⟨rfl, rfl, rfl, rfl, rfl, rfl, rfl, rfl⟩ rfl ?bind ?nd ?cell ?loc ?h (.inl rfl)
  case code => kernel_rfl
  case nd => decide
  case cell => decide
  case loc => decide
  case bind => intro vs h; match vs, h with | [v, u], _ => rfl
  intro L q cd A h₀ g₀ s₀
  dsimp only
  have l1 := hp.1
  have e1 : (li p).length ≤ 1000 := by rw [li_len]; omega
  refine bk_cons (sx_tup2 (d₁ := .lst (li [1])) (d₂ := .lst (li p)) (Evn.ev (evn_list (l := [.int 1]) (evs_cons ev_int evs_nil rfl) (by simp))) (Evn.ev (ev_list_of (ev_name rfl rfl) e1 (n_list hc) rfl rfl)) rfl rfl (fun _ _ _ e => by cases e) rfl rfl rfl rfl) ?_
  generalize ([1] : List Int) = f at hn ⊢
  refine bk_cons (sx_while (o := .next [("found", .lst (li (zpw n f p k)))] none) ?_) (bk_ret (sx_ret (ev_name rfl rfl)))
  refine wl_weak (Γ' := [("found", .lst (li f)), ("factor", .lst (li p)), ("many", .i k)]) (sub_cons rfl (sub_cons rfl (sub_cons rfl sub_nil))) ?_
  clear e1 l1 hp
  induction n generalizing f p k with
  | zero =>
    have hn : k = 0 := hn
    subst hn
    exact Wl.weakPost (wl_false (Et.cast (et_cmp (ev_name rfl rfl) ev_int c_gt rfl) (by simp))) (sub_cons rfl sub_nil)
  | succ n ih =>
    by_cases hz : k = 0
    · subst hz
      simp only [zpw, if_true]
      exact Wl.weakPost (wl_false (Et.cast (et_cmp (ev_name rfl rfl) ev_int c_gt rfl) (by simp))) (sub_cons rfl sub_nil)
    · simp only [zpw, zpOk, if_neg hz] at hn ⊢
      obtain ⟨o1, o2, o3, o4, o5⟩ := hn
      refine wl_true (Γ₁ := [("found", .lst (li (if k % 2 = 1 then zm f p else f))), ("factor", .lst (li (if 1 < k then zm p p else p))), ("many", .i (k / 2 : Nat))]) (μ₁ := none) (Et.cast (et_cmp (ev_name rfl rfl) ev_int c_gt rfl) (by simp; omega)) ?_ (ih _ _ (by omega) _ o5)
      refine bk_cons (sx_if (c := decide (k % 2 = 1)) (o := .next [("found", .lst (li (if k % 2 = 1 then zm f p else f))), ("factor", .lst (li p)), ("many", .i k)] none) (et_cmp (ev_mod (ev_name rfl rfl) ev_int (by decide)) ev_int c_eq rfl |>.cast (by rw [fmod2]; by_cases h : k % 2 = 1 <;> simp [h] <;> omega)) (fun h => ?tt) (fun h => ?ff)) ?_
      case tt =>
        have h' : k % 2 = 1 := of_decide_eq_true h
        rw [if_pos h']
        exact bk_cons (sx_assign (ev_call (c_zmul hc _ _ o1 o2 o3 o4) (evs_cons (ev_name rfl rfl) (evs_cons (ev_name rfl rfl) evs_nil rfl) rfl) (n_zmul hc) (k_zmul hc) (Nat.le_of_ble_eq_true rfl) rfl rfl rfl rfl) rfl (fun _ _ _ e => by cases e) rfl) (bk_nil (sub_cons rfl (sub_cons rfl (sub_cons rfl sub_nil))))
      case ff =>
        have h' : ¬ k % 2 = 1 := of_decide_eq_false h
        rw [if_neg h']
        exact bk_nil .refl
      generalize (if k % 2 = 1 then zm f p else f) = f'
      refine bk_cons (sx_assign (d := .lst (li (if 1 < k then zm p p else p))) (ev_if (c := decide (1 < k)) (et_cmp (ev_name rfl rfl) ev_int c_gt rfl |>.cast (by by_cases h : 1 < k <;> simp [h] <;> omega)) (fun h => ?t2) (fun h => ?f2)) rfl (fun _ _ _ e => by cases e) rfl) ?_
      case t2 =>
        have h' : 1 < k := of_decide_eq_true h
        rw [if_pos h']
        exact (ev_call (c_zmul hc _ _ o2 o2 o4 o4) (evs_cons (ev_name rfl rfl) (evs_cons (ev_name rfl rfl) evs_nil rfl) rfl) (n_zmul hc) (k_zmul hc) (Nat.le_of_ble_eq_true rfl) rfl rfl rfl rfl)
      case f2 =>
        have h' : ¬ 1 < k := of_decide_eq_false h
        rw [if_neg h']
        exact (ev_name rfl rfl)
      exact bk_cons (sx_assign (d := .i (k / 2 : Nat)) (Ev.cast (ev_floordiv (ev_name rfl rfl) ev_int (Nat.lt_of_le_of_lt (m := 1000) (by omega) (by decide)) (by decide)) (by rw [fdiv2])) rfl (fun _ _ _ e => by cases e) rfl) (bk_nil (sub_cons rfl (sub_cons rfl (sub_cons rfl sub_nil))))

theorem c_ways (hc : CxOk c) (w : List Int) (n : Nat) (ab : Bool) (hw : Ok w) (hn : n ≤ 100) (hf : ∀ t, t < n → OkD (ways ab w t)) : CallD c 1 198 [.lst (li w), .i n, .bool ab] (.dic (ways ab w n)) := by
  refine callD_plain (xs := ["w", "n", "is_above"]) (out := .ret _) hc.K rfl ?code ⟨rfl, rfl, rfl, rfl, rfl, rfl, rfl, rfl⟩ rfl ?bind ?nd ?cell ?loc ?h (.inl rfl)
  case code => kernel_rfl
  case nd => decide
  case cell => decide
  case loc => decide
  case bind => intro vs h; match vs, h with | [v, u, x], _ => rfl
  intro L q cd A h₀ g₀ s₀
  dsimp only
  have l1 := hw.1
  refine bk_cons (sx_assign (d := .dic (ways ab w 0)) (Evn.ev (evn_dict1 ev_int ev_int)) rfl (fun _ _ _ e => by cases e) rfl) ?_
  refine bk_cons (sx_for (n := n) (Γs := fun t => [("found", .dic (ways ab w t)), ("w", .lst (li w)), ("is_above", .bool ab)]) (μs := fun _ => none) (src_name (raw_range1 (n := n) (ev_name rfl rfl) rfl (by omega) (n_range hc) rfl rfl) rfl (fun _ _ => rfl))
    (sub_cons rfl (sub_cons rfl (sub_cons rfl sub_nil))) (fun i y a d e => by cases e) ?body (fun _ => rfl)) (bk_ret (sx_ret (ev_name rfl rfl)))
  intro t ht h₀ g₀ s₀
  have o1 := hf t ht
  have l2 := o1.1
  have x0 : D.dic [] = D.dic (ws2 ab w (ways ab w t) 0) := rfl
  refine bk_new (d := .dic (ws2 ab w (ways ab w t) 0)) (Evn.cast evn_dict0 x0) rfl (sub_cons (x := "found") (d := .dic (ways ab w t)) rfl (sub_cons (x := "w") (d := .lst (li w)) rfl (sub_cons (x := "is_above") (d := .bool ab) rfl sub_nil))) rfl rfl fun a₀ => ?_
  show Bk _ _ _ _ (.next [("found", .dic (ws2 ab w (ways ab w t) (ways ab w t).length)), ("w", .lst (li w)), ("is_above", .bool ab)] none)
  generalize ways ab w t = f at o1 l2 ⊢
  refine bk_cons (sx_for (n := f.length) (Γs := fun i => [("found", .dic f), ("w", .lst (li w)), ("is_above", .bool ab)]) (μs := fun i => some ("later", a₀, .dic (ws2 ab w f i))) (src_items (ev_name rfl rfl) rfl rfl rfl rfl)
    (sub_cons rfl (sub_cons rfl (sub_cons rfl sub_nil))) (fun i y a d e => by cases e; decide) ?mid (fun _ => rfl)) (bk_freeze (bk_cons (sx_assign (ev_name rfl rfl) rfl (fun _ _ _ e => by cases e) rfl) (bk_nil (sub_cons rfl (sub_cons rfl (sub_cons rfl sub_nil))))))
  intro i hi h₀ g₀ s₀
  have o2 := o1.get i
  have l3 := ws2_len ab w f i
  have l4 : i * w.length ≤ 50 * 20 - 20 := by
    have := Nat.mul_le_mul (show i ≤ 49 by omega) l1
    omega
  show Bk _ _ _ _ (.next _ (some ("later", a₀, .dic (ws1 ab w (f.getD i (0, 0)).1 (f.getD i (0, 0)).2 (ws2 ab w f i) w.length))))
  generalize (f.getD i (0, 0)).1 = h at o2 ⊢
  generalize (f.getD i (0, 0)).2 = wt at o2 ⊢
  generalize ws2 ab w f i = d at l3 ⊢
  refine bk_cons (sx_for (n := w.length) (Γs := fun j => [("weight", .i wt), ("height", .i h), ("found", .dic f), ("w", .lst (li w)), ("is_above", .bool ab)]) (μs := fun j => some ("later", a₀, .dic (ws1 ab w h wt d j))) (src_enum_li (ev_name rfl rfl) (by omega) (n_enumerate hc) rfl rfl rfl rfl)
    (sub_cons rfl (sub_cons rfl (sub_cons rfl (sub_cons rfl (sub_cons rfl sub_nil))))) (fun i y a d e => by cases e; decide) ?inner (fun _ => rfl)) (bk_nil (sub_cons rfl (sub_cons rfl (sub_cons rfl sub_nil))))
  intro j hj h₀ g₀ s₀
  have p1 := hw.get j
  have l5 := ws1_len ab w h wt d j
  refine bk_cons (sx_if (c := decide (w.getD j 0 ≠ 0) && (decide (0 < h + 1 - (j : Int)) || !ab)) (o := .next [("weight", .i wt), ("height", .i h), ("found", .dic f), ("w", .lst (li w)), ("is_above", .bool ab)] (some ("later", a₀, .dic (ws1 ab w h wt d (j + 1)))))
    (et_and (et_cmp (ev_name rfl rfl) ev_int c_ne rfl |>.cast (bne_dec _)) fun _ => et_or (et_cmp (ev_sub (ev_add (ev_name rfl rfl) ev_int) (ev_name rfl rfl)) ev_int c_gt rfl) fun _ => et_not (et_bool (ev_name rfl rfl))) (fun hh => ?tt) (fun hh => ?ff)) (bk_nil .refl)
  case tt =>
    have e : w.getD j 0 ≠ 0 ∧ (0 < h + 1 - (j : Int) ∨ ab = false) := by
      simp only [Bool.and_eq_true, Bool.or_eq_true, decide_eq_true_eq, Bool.not_eq_true'] at hh
      exact hh
    simp only [ws1]
    rw [if_pos e]
    refine bk_cons (sx_dput (k := h + 1 - j) (ev_add (ev_get_mu (ev_sub (ev_add (ev_name rfl rfl) ev_int) (ev_name rfl rfl)) ev_int rfl (by decide) rfl rfl) (ev_mul (ev_name rfl rfl) (ev_name rfl rfl) (small63 o2) (small63 p1))) (ev_sub (ev_add (ev_name rfl rfl) ev_int) (ev_name rfl rfl)) (by decide) (by omega) rfl) ?_
    exact bk_nil (sub_cons rfl (sub_cons rfl (sub_cons rfl (sub_cons rfl (sub_cons rfl sub_nil)))))
  case ff =>
    have e : ¬ (w.getD j 0 ≠ 0 ∧ (0 < h + 1 - (j : Int) ∨ ab = false)) := by
      intro q
      have : (decide (w.getD j 0 ≠ 0) && (decide (0 < h + 1 - (j : Int)) || !ab)) = true := by
        simp only [Bool.and_eq_true, Bool.or_eq_true, decide_eq_true_eq, Bool.not_eq_true']
        exact q
      rw [this] at hh; cases hh
    simp only [ws1]
    rw [if_neg e]
    exact bk_nil (sub_cons rfl (sub_cons rfl (sub_cons rfl (sub_cons rfl (sub_cons rfl sub_nil)))))

end
end Mine

namespace Mine

abbrev poolObj (q : Addr) (spot : Int) (t : Tok) (n : Nat) : Obj := { cls := .type "list", data := .seq [Value.ref q, .int spot t].toArray n }
def menu : List Int := [2, 1, 0, 3, 0]
def drawF (xs : List Int) (spot : Nat) (many : Int) : Int := if spot < xs.length then (((xs.getD spot 0).natAbs : Int)).fmod many else (menu.getD (spot % 5) 0).fmod many

theorem ev_tup_item {F : Fm} {Γ : Gam} {μ : Mu} {es : List Expr} {slice : Expr} {kk : Nat} {p pos : Pos} {l : List Int} {k : Nat} (h : Evs F Γ μ p es (l.map D.i)) (hs : Ev F Γ μ slice (.i k)) (hk : k < l.length) (hz : l.length ≤ 1000) (hp : PlainIx slice) :
    Ev F Γ μ (.Subscript (.Tuple es kk p) slice pos) (.i (l.getD k 0)) := fun s g X => by
  refine Subscript_ (wpAny_Tuple (wpAny_mono (h s g X) (fun vs s₁ ⟨g₁, x₁, r₁⟩ => ?_) fun _ _ f => f))
  have e1 : vs.length = l.length := by have := r₁.length; simpa using this
  refine ⟨by rw [e1]; exact Nat.le_trans hz (by decide), ?_⟩
  have y := push_ext x₁ { cls := .type "tuple", data := .seq vs.toArray }
  have hg : (s₁.heap.push { cls := .type "tuple", data := .seq vs.toArray }).get? s₁.heap.objs.size = some { cls := .type "tuple", data := .seq vs.toArray } := Heap.get?_push_size _ rfl
  refine wpAny_mono (hs _ g₁ (X.ext y)) (fun u s₂ ⟨g₂, x₂, ⟨t, r₂⟩⟩ => ?_) fun _ _ f => f
  subst r₂
  have ht : IsTup s₂.heap s₁.heap.objs.size vs.toArray := ⟨_, x₂.keep _ _ hg, rfl, _, rfl⟩
  obtain ⟨v, hv, t', e'⟩ := paired_get r₁ (k := k) (x := D.i (l.getD k 0)) (by simp [List.getD, List.getElem?_eq_getElem hk])
  subst e'
  exact item_tupleT ht (by omega) (by omega) (j := k) (by simp [seqIndex?]; omega) (by simpa using hv) ⟨g₂, y.trans x₂, _, rfl⟩ (hp _ _ _)

/-- the pool's first part, where the pool stands in the kept part -/
theorem ev_pool0 {F : Fm} {Γ : Gam} {μ : Mu} {x : Str} {np pos : Pos} {slice : Expr} {p q : Addr} {spot : Int} {t : Tok} {n : Nat} {d : D} (hx : Ev F Γ μ (.Name x np) (.adr p)) (hs : Ev F Γ μ slice (.i 0)) (hp : F.h₀.get? p = some (poolObj q spot t n)) (hq : Rep F.c F.g₀ (.ref q) d) (hi : PlainIx slice) :
    Ev F Γ μ (.Subscript (.Name x np) slice pos) d := fun s g X => by
  refine Subscript_ (wpAny_mono (hx s g X) (fun v s₁ ⟨g₁, x₁, r₁⟩ => wpAny_mono (hs s₁ g₁ (X.ext x₁)) (fun u s₂ ⟨g₂, x₂, ⟨t', r₂⟩⟩ => ?_) fun _ _ f => f) fun _ _ f => f)
  have r₁ : v = .ref p := r₁
  subst r₁ r₂
  have hl : s₂.heap.IsList p [Value.ref q, .int spot t].toArray := ⟨_, x₂.keep _ _ (x₁.keep _ _ (X.base.keep _ _ hp)), rfl, _, rfl⟩
  exact tail_any hl.typeIs slot_list_getitem.lookup (wpAny_getItem_list hl (by decide) (by decide) rfl ⟨g₂, x₁.trans x₂, hq.mono fun a o e => x₂.gg _ _ (x₁.gg _ _ (X.base.gg _ _ e))⟩) (hi _ _ _)

theorem run_bk {F : Fm} {Γ : Gam} {μ : Mu} {g : Fz} {s : Shared} {ss : List Stmt} {o : Out} {Q : Flow → Shared → Prop} {M : Model} {A : Around} {env : Env} (X : St F Γ μ g s) (hM : F.M = M) (hA : F.A = A) (he : F.env = env) (h : Bk F Γ μ ss o) (hQ : ∀ fl s', Post F o fl s' → Q fl s') : wpAny M A (execs ss env) Q (fun _ _ => False) s := by
  subst hM hA he
  exact wpAny_mono (h s g X) hQ fun _ _ f => f
section
variable {c : Cx}

theorem c_draw (hc : CxOk c) {A : Around} {s : Shared} {g : Fz} {h00 : Heap} {p q : Addr} {n spot : Nat} {t tm : Tok} {xs : List Int} {many : Int} (hR : Room A 2) (T0 : TopOk c h00) (k00 : ∀ b o, h00.get? b = some o → s.heap.get? b = some o) (p00 : h00.get? p = none)
    (gs : ∀ a o, g a = some o → s.heap.get? a = some o) (gp : g p = none) (hB : BaseZ c g) (hp : s.heap.get? p = some (poolObj q spot t n)) (hq : Rep c g (.ref q) (.lst (li xs))) (hxs : xs.length ≤ 5) (hm : 0 < many) (hs : spot ≤ 100) :
    wpAny (model c.prog c.w) A (call (.ref 191) [.ref p, .int many tm]) (fun v s' => (∃ tk, v = .int (drawF xs spot many) tk) ∧ (∃ t' n', s'.heap.get? p = some (poolObj q (spot + 1 : Nat) t' n')) ∧ (∀ b o, b ≠ p → s.heap.get? b = some o → s'.heap.get? b = some o) ∧ s'.gens = s.gens ∧ s'.drawn = s.drawn ∧ s'.os = s.os) (fun _ _ => False) s := by
  have TH : TopOk c (hideAll s.heap [p]) := T0.keeps fun b o e => hideAll_get _ (k00 b o e) (by simp; rintro rfl; rw [p00] at e; cases e)
  refine call_frame (k := 1) (xs := ["pool", "many"]) (ds := [.adr p, .i many]) hc.K rfl ?code ⟨rfl, rfl, rfl, rfl, rfl, rfl, rfl, rfl⟩ rfl rfl ?nd ?cell ?loc hR TH (fun _ _ e => of_hideAll _ e) gs hB (.cons rfl (.cons ⟨_, rfl⟩ .nil)) ?h
  case code => kernel_rfl
  case nd => decide
  case cell => decide
  case loc => decide
  intro L qn cd A' s₁ X hk hfr
  dsimp only at X ⊢
  have hpL : p ≠ L := fun e => by rw [e, hfr] at hp; cases hp
  have hp₁ := hk _ _ hp
  -- spot = pool[1]
  refine wpAny_execs_cons (wpAny_Assign_Name (Subscript_ (wpAny_mono (ev_name (d := .adr p) rfl rfl s₁ g X) (fun v s₂ ⟨g₂, x₂, r₂⟩ => wpAny_Constant_int ?_) fun _ _ f => f)) rfl)
  have r₂ : v = .ref p := r₂
  subst r₂
  have X₂ := X.ext (x₂.toks (s₂.toks + 1))
  have hp₂ := x₂.keep _ _ hp₁
  have gp₂ := none_of_ext x₂ hp₁ gp
  have hl₂ : ({ s₂ with toks := s₂.toks + 1 } : Shared).heap.IsList p [Value.ref q, .int spot t].toArray := ⟨_, hp₂, rfl, _, rfl⟩
  refine tail_any hl₂.typeIs slot_list_getitem.lookup (wpAny_getItem_list hl₂ (by decide) (by decide) rfl ?_) (plain_int _ _ _)
  refine X₂.stored (d := .i spot) rfl (fun _ _ _ e => by cases e) ⟨_, rfl⟩ fun s₃ X₃ k₃ => ?_
  have hp₃ := k₃ _ _ hpL hp₂
  -- pool[1] = spot + 1
  refine wpAny_execs_cons (wpAny_Assign_Subscript (wpAny_mono (ev_add (i := (spot : Int)) (j := 1) (ev_name rfl rfl) ev_int s₃ g₂ X₃) (fun v s₄ ⟨g₄, x₄, t₄, e₄⟩ => wpAny_mono (ev_name (d := .adr p) rfl rfl s₄ g₄ (X₃.ext x₄)) (fun v' s₅ ⟨g₅, x₅, r₅⟩ => wpAny_Constant_int ?_) fun _ _ f => f) fun _ _ f => f) rfl)
  have r₅ : v' = .ref p := r₅
  subst e₄ r₅
  have x₆ := (x₄.trans x₅).toks (s₅.toks + 1)
  have X₆ := X₃.ext x₆
  have hp₆ := x₆.keep _ _ hp₃
  have gp₆ := none_of_ext x₆ hp₃ gp₂
  refine ki_setAt (n := n) hp₆ (by decide) (by decide) (by simp) ?_
  have key : ∃ n', (({ s₅ with toks := s₅.toks + 1 } : Shared).heap.update p (Obj.mapSeq (·.setIfInBounds (Int.toNat 1) (.int ((spot : Int) + 1) t₄)))).get? p = some (poolObj q ((spot + 1 : Nat) : Int) t₄ n') := ⟨_, PySem.IsL.update hp₆ (fun its => its.setIfInBounds (Int.toNat 1) (.int ((spot : Int) + 1) t₄))⟩
  obtain ⟨n', hp₇⟩ := key
  have hsb := Heap.SameBut.update ({ s₅ with toks := s₅.toks + 1 } : Shared).heap p (Obj.mapSeq (·.setIfInBounds (Int.toNat 1) (.int ((spot : Int) + 1) t₄)))
  generalize ({ s₅ with toks := s₅.toks + 1 } : Shared).heap.update p (Obj.mapSeq (·.setIfInBounds (Int.toNat 1) (.int ((spot : Int) + 1) t₄))) = h₇ at hp₇ hsb ⊢
  have X₇ := X₆.alter (p := p) (h' := h₇) (t := s₅.toks + 1) (fun b o hb e => hsb.extBut b o hb e) hpL gp₆ (hideAll_none _ (by simp)) (fun _ _ _ e => by cases e)
  have up : ∀ b o, b ≠ p → s.heap.get? b = some o → h₇.get? b = some o := fun b o hb e => hsb.extBut b o hb (x₆.keep _ _ (k₃ b o (fun e' => by rw [e', hfr] at e; cases e) (x₂.keep _ _ (hk _ _ e))))
  have hq₇ : Rep c g₅ (.ref q) (.lst (li xs)) := hq.mono fun a o e => x₆.gg _ _ (x₂.gg _ _ e)
  have Y := X₇.focus (ls := [L]) (by simp) (fun _ _ _ e => by cases e) (by simp; exact X₇.ok.fresh)
  have hp₃ : (hideAll h₇ [L]).get? p = some (poolObj q (spot + 1 : Nat) t₄ n') := hideAll_get _ hp₇ (by simp; exact hpL)
  clear hp₂ hp₁
  have e1 : (li xs).length ≤ 1000 := by rw [li_len]; omega
  refine run_bk (o := .ret (.i (drawF xs spot many))) Y rfl rfl rfl ?_ (fun fl s' hP => ?_)
  rotate_left
  · obtain ⟨v, g', rfl, B, tk, hv⟩ := hP
    refine ⟨v, rfl, ⟨tk, hv⟩, ⟨t₄, n', B.keep _ _ hp₃⟩, fun b o hb e => B.keep _ _ (hideAll_get _ (up b o hb e) (by simp; rintro rfl; rw [hfr] at e; cases e)), ?_⟩
    have s1 := B.sh
    have s2 := X₇.base.sh
    exact ⟨s1.1.trans s2.1, s1.2.1.trans s2.2.1, s1.2.2.trans s2.2.2⟩
  by_cases hlt : spot < xs.length
  · have ed : drawF xs spot many = (((xs.getD spot 0).natAbs : Int)).fmod many := by simp only [drawF]; rw [if_pos hlt]
    rw [ed]
    refine bk_ret (sx_if (c := true) (et_cmp (ev_name rfl rfl) (ev_blt (id := "len") (evs_cons (ev_pool0 (ev_name rfl rfl) ev_int hp₃ hq₇ plain_int) evs_nil rfl) (n_len hc) t_len (by decide) rfl rfl rfl rfl (b_len e1)) c_lt rfl |>.cast (by rw [li_len]; simpa using hlt)) (fun _ => ?_) (fun h => by cases h))
    refine bk_ret (sx_ret (ev_mod (Ev.cast (ev_blt (id := "abs") (evs_cons (ev_item (ev_pool0 (ev_name rfl rfl) ev_int hp₃ hq₇ plain_int) (ev_name rfl rfl) (by omega) (li_get (by simpa using hlt)) e1 plain_name) evs_nil rfl) (n_abs hc) t_abs (by decide) rfl rfl rfl rfl b_abs) (by simp only [Int.toNat_natCast]; rw [natAbs_if])) (ev_name rfl rfl) (by omega)))
  · have ed : drawF xs spot many = ((menu.getD (spot % 5) 0)).fmod many := by simp only [drawF]; rw [if_neg hlt]
    rw [ed]
    refine bk_cons (sx_if (c := false) (o := .next _ _) (et_cmp (ev_name rfl rfl) (ev_blt (id := "len") (evs_cons (ev_pool0 (ev_name rfl rfl) ev_int hp₃ hq₇ plain_int) evs_nil rfl) (n_len hc) t_len (by decide) rfl rfl rfl rfl (b_len e1)) c_lt rfl |>.cast (by rw [li_len]; simp; omega)) (fun h => by cases h) (fun _ => bk_nil .refl)) ?_
    exact bk_ret (sx_ret (ev_mod (ev_tup_item (l := menu) (k := spot % 5) (evs_cons ev_int (evs_cons ev_int (evs_cons ev_int (evs_cons ev_int (evs_cons ev_int evs_nil rfl) rfl) rfl) rfl) rfl) (Ev.cast (ev_mod (ev_name rfl rfl) ev_int (by decide)) (by rw [Int.fmod_eq_emod_of_nonneg _ (by decide)]; rfl)) (by have : menu.length = 5 := rfl; omega) (by decide) plain_bin) (ev_name rfl rfl) (by omega)))

end
end Mine

namespace Mine

/-- a step that adds, and may change p -/
structure ExtP (p : Addr) (s : Shared) (g : Fz) (s' : Shared) (g' : Fz) : Prop where
  keep : ∀ b o, b ≠ p → s.heap.get? b = some o → s'.heap.get? b = some o
  gg : ∀ a o, g a = some o → g' a = some o
  gs : ∀ a o, g' a = some o → s'.heap.get? a = some o
  gf : ∀ a o, g' a = some o → g a = some o ∨ s.heap.get? a = none
  sh : s'.gens = s.gens ∧ s'.drawn = s.drawn ∧ s'.os = s.os
theorem Ext.toP {p : Addr} {s s' : Shared} {g g' : Fz} (x : Ext s g s' g') : ExtP p s g s' g' := ⟨fun b o _ e => x.keep b o e, x.gg, x.gs, x.gf, x.sh⟩
/-- the pool -/
structure PoolIn (F : Fm) (g : Fz) (s : Shared) (p q : Addr) (xs : List Int) (spot : Nat) : Prop where
  hp : ∃ t n, s.heap.get? p = some (poolObj q spot t n)
  gp : g p = none
  h0 : F.h₀.get? p = none
  pL : p ≠ F.env.locals
  hq : Rep F.c g (.ref q) (.lst (li xs))
theorem ExtP.trans {p : Addr} {s s' s'' : Shared} {g g' g'' : Fz} (x : ExtP p s g s' g') (y : ExtP p s' g' s'' g'') (hp : ∃ o, s.heap.get? p = some o) (gp : g'' p = none) : ExtP p s g s'' g'' where
  keep := fun b o h e => y.keep b o h (x.keep b o h e)
  gg := fun a o e => y.gg a o (x.gg a o e)
  gs := y.gs
  gf := fun a o e => by
    rcases y.gf a o e with h | h
    · exact x.gf a o h
    · refine .inr ?_
      cases q : s.heap.get? a with
      | none => rfl
      | some o' =>
        by_cases hap : a = p
        · subst hap; rw [gp] at e; cases e
        · rw [x.keep a o' hap q] at h; cases h
  sh := ⟨y.sh.1.trans x.sh.1, y.sh.2.1.trans x.sh.2.1, y.sh.2.2.trans x.sh.2.2⟩
theorem none_of_extP {p : Addr} {g g' : Fz} {s s' : Shared} (x : ExtP p s g s' g') {a : Addr} {o : Obj} (ho : s.heap.get? a = some o) (hn : g a = none) : g' a = none := by
  cases q : g' a with
  | none => rfl
  | some o' =>
    rcases x.gf a o' q with h | h
    · rw [hn] at h; cases h
    · rw [ho] at h; cases h
section
variable {F : Fm} {Γ Γ' : Gam} {p q : Addr} {xs : List Int} {spot : Nat}
theorem St.extP {g g' : Fz} {s s' : Shared} (X : St F Γ none g s) (x : ExtP p s g s' g') (h0 : F.h₀.get? p = none) (pL : p ≠ F.env.locals) (gp : g p = none) : St F Γ none g' s' := by
  obtain ⟨m, L⟩ := X.loc
  refine ⟨⟨fun b o e => x.keep b o (fun q => by rw [q, h0] at e; cases e) (X.base.keep b o e), fun a o e => x.gg a o (X.base.gg a o e), x.gs, fun a o e => ?_, ⟨x.sh.1.trans X.base.sh.1, x.sh.2.1.trans X.base.sh.2.1, x.sh.2.2.trans X.base.sh.2.2⟩⟩, X.ok, m, L.ns.at' fun o e => x.keep _ o (Ne.symm pL) e, ?_, fun y d hy => ?_, fun _ _ _ e => by cases e⟩
  · rcases x.gf a o e with h | h
    · exact X.base.gf a o h
    · exact .inr (none_h0 (s₁ := s) (g₁ := g) X h)
  · obtain ⟨o, _, _, ho, _⟩ := L.ns
    exact none_of_extP x ho L.gL
  · rcases L.loc y d hy with ⟨k, v, hv, r⟩ | ⟨k, ca, o, v, h1, h2, h3, r⟩
    · exact .inl ⟨k, v, hv, r.mono x.gg⟩
    · exact .inr ⟨k, ca, o, v, h1, x.gg _ _ h2, h3, r.mono x.gg⟩
theorem PoolIn.ext {g g' : Fz} {s s' : Shared} (P : PoolIn F g s p q xs spot) (x : Ext s g s' g') : PoolIn F g' s' p q xs spot := by
  obtain ⟨⟨t, n, hp⟩, gp, h0, pL, hq⟩ := P
  exact ⟨⟨t, n, x.keep _ _ hp⟩, none_of_ext x hp gp, h0, pL, hq.mono x.gg⟩

/-- «_law_draw(pool, e)» -/
theorem draw_expr (hc : CxOk F.c) {np pp pos : Pos} {e : Expr} {many : Int} {s : Shared} {g : Fz} (X : St F Γ none g s) (P : PoolIn F g s p q xs spot) (hpool : Γ.lookup ("pool" : Str) = some (D.adr p)) (he : Ev F Γ none e (.i many)) (hm : 0 < many) (hxs : xs.length ≤ 5) (hs : spot ≤ 100) (hk : 2 ≤ F.k)
    (hn : F.env.kindOf "_law_draw" = some .globalImplicit) (hs1 : starEach [.Name "pool" pp, e] F.env = (false, eval (.Name "pool" pp) F.env) :: starEach [e] F.env) (hs2 : starEach [e] F.env = [(false, eval e F.env)]) :
    wpAny F.M F.A (eval (.Call (.Name "_law_draw" np) [.Name "pool" pp, e] [] pos) F.env) (fun v s' => ∃ g', (∃ tk, v = .int (drawF xs spot many) tk) ∧ ExtP p s g s' g' ∧ St F Γ none g' s' ∧ PoolIn F g' s' p q xs (spot + 1)) (fun _ _ => False) s := by
  refine Call_ (name_glob X (n_law_draw hc) hn (by decide) (callWith_K X.top.K (k_law_draw hc) (wpAny_items_cons (wpAny_mono (ev_name hpool (by decide) s g X) (fun v s₁ ⟨g₁, x₁, r₁⟩ => wpAny_items_cons (wpAny_mono (he s₁ g₁ (X.ext x₁)) (fun u s₂ ⟨g₂, x₂, t, r₂⟩ => wpAny_items_nil ?_) fun _ _ f => f) hs2) fun _ _ f => f) hs1) hs1 (by rw [hs2]; rfl)))
  have r₁ : v = .ref p := r₁
  subst r₁ r₂
  have x := x₁.trans x₂
  have X₂ := X.ext x
  have P₂ := P.ext x
  refine ⟨X₂.top.K, ?_⟩
  obtain ⟨⟨t', n, hp⟩, gp, h0, pL, hq⟩ := P₂
  obtain ⟨⟨t₀, n₀, hp₀⟩, gp₀, _⟩ := P
  refine wpAny_mono (c_draw hc (X.ok.room.le hk) X.ok.top X₂.base.keep h0 X₂.base.gs gp (X.ok.base.mono X₂.base.gg) hp hq hxs hm hs) (fun v s₃ ⟨hv, ⟨t₃, n₃, hp₃⟩, hk₃, s1, s2, s3⟩ => ?_) fun _ _ f => f
  have x₃ : ExtP p s g s₃ g₂ := ⟨fun b o hb e => hk₃ b o hb (x.keep b o e), x.gg, fun a o e => hk₃ a o (fun q => by rw [q, gp] at e; cases e) (x.gs a o e), x.gf, ⟨s1.trans x.sh.1, s2.trans x.sh.2.1, s3.trans x.sh.2.2⟩⟩
  exact ⟨g₂, hv, x₃, X.extP x₃ h0 pL gp₀, ⟨⟨t₃, n₃, hp₃⟩, gp, h0, pL, hq⟩⟩

/-- two frozen lists added -/
theorem concat_at {s s₂ : Shared} {g g₂ : Fz} {a1 a2 : Addr} {a b : List S} (r₁ : Rep F.c g₂ (.ref a1) (.lst a)) (r₂ : Rep F.c g₂ (.ref a2) (.lst b)) (gs : ∀ x o, g₂ x = some o → s₂.heap.get? x = some o) (hz : a.length + b.length ≤ 1000) (T : TopOk F.c s₂.heap) :
    wpAny F.M F.A (binaryOp .Add (.ref a1) (.ref a2)) (fun v s' => ∃ g', Ext s₂ g₂ s' g' ∧ Rep F.c g' v (.lst (a ++ b))) (fun _ _ => False) s₂ := by
  obtain ⟨a1, ⟨cls, dd, data, sl⟩, e1, ho, vs, ⟨hc, ⟨n, hd⟩, _⟩, q⟩ := r₁
  obtain ⟨a2, ⟨cls2, dd2, data2, sl2⟩, e2, ho2, ws, ⟨hc2, ⟨n2, hd2⟩, _⟩, q2⟩ := r₂
  cases e1
  cases e2
  simp only at hc hd hc2 hd2
  subst hc hd hc2 hd2
  have e1 := q.length
  have e2 := q2.length
  have hz' : vs.toArray.size + ws.toArray.size ≤ sizeLine := by simp [e1, e2]; exact Nat.le_trans hz (by decide)
  refine concat_meets ⟨_, gs _ _ ho, rfl⟩ ⟨_, gs _ _ ho2, rfl⟩ noFill_list_add seq_list_add PySem.F.slot_list_add PySem.F.entry_list_add (PySem.F.args_list_add_2 _ _) (list_addW a1 a2 vs.toArray ws.toArray n n2 dd dd2 sl sl2 hz') ⟨gs _ _ ho, gs _ _ ho2, ?_⟩
  have xr : Ext s₂ g₂ s₂ g₂ := Ext.refl gs
  have x := push_frozen xr (o := { cls := .type "list", data := .seq (vs.toArray ++ ws.toArray) }) rfl
  exact ⟨_, x, _, _, rfl, addz_self, ⟨vs ++ ws, ⟨rfl, ⟨_, by simp only [List.append_toArray]; rfl⟩, rfl, rfl⟩, RepSs.mono x.gg (paired_app q q2)⟩⟩

abbrev Fm.compP (F : Fm) (scope : Scope) (cl : List (Str × Addr)) (p : Addr) (C : Addr) (g : Fz) (s : Shared) : Fm := F.comp scope cl C (hideAll s.heap [p]) g s

theorem evp_comp {elt iter : Expr} {x : Str} {px : Pos} {scope : Scope} {cl : List (Str × Addr)} {pos : Pos} (Γc : Gam) {n : Nat} {items : Nat → D} {out : Nat → S} {s : Shared} {g : Fz} (X : St F Γ none g s) (P : PoolIn F g s p q xs spot) (h : Raw F Γ none iter n items)
    (helt : ∀ i, i < n → ∀ C s₁ g₁, St (F.compP scope cl p C g s) ((x, items i) :: Γc) none g₁ s₁ → PoolIn (F.compP scope cl p C g s) g₁ s₁ p q xs (spot + i) →
      wpAny F.M F.A (eval elt (compEnvC scope cl C F.env)) (fun y s' => ∃ g', RepS g' y (out i) ∧ ExtP p s₁ g₁ s' g' ∧ PoolIn (F.compP scope cl p C g s) g' s' p q xs (spot + (i + 1))) (fun _ _ => False) s₁)
    (hclos : closureFor scope F.env = pure cl) (hcell : ∀ y ∈ scope.names, y.2 ≠ .cell) (hkind : scope.kind = .function) (hnames : ∀ y ∈ scope.names, y.2 = .local → scope.names.lookup y.1 = some .local) (hx : scope.names.lookup x = some .local) (hΓ : Around? F scope cl Γ Γc) (hz : n ≤ 1000)
    (ht : ∀ I v, letOwnedTupleGo (.Name x px) (.ref I) v = pure ()) (hs : ∀ x, foldedSetIterable iter F.env x = pure x) :
    wpAny F.M F.A (eval (.ListComp elt [⟨.Name x px, iter, [], 0⟩] scope pos) F.env) (fun v s' => ∃ g', ExtP p s g s' g' ∧ Rep F.c g' v (.lst ((List.range n).map out)) ∧ PoolIn F g' s' p q xs (spot + n)) (fun _ _ => False) s := by
  obtain ⟨⟨tp, np, hp⟩, gp, h0, pL, hq⟩ := id P
  rw [eval_ListComp]
  refine wpAny_comprehension_free (use := none) rfl hs hclos hkind hnames (wpAny_mono (h s g X) (fun xv s₁ h₁ => wpAny_mono h₁ (fun it s₂ h₂ => ?_) fun _ _ f => f.elim) fun _ _ f => f.elim)
  obtain ⟨g₂, I, fp, Pv, PP, r⟩ := h₂
  obtain rfl := r.is
  have x₂ := r.ext
  have hp₂ := x₂.keep _ _ hp
  have gp₂ := none_of_ext x₂ hp gp
  refine wpAny_newObj_type (wpAny_newFunctionEnv hcell (by intro y hy; simp at hy) (fun h₁ hns₁ hsb₁ => ?_) hkind)
  dsimp only at hns₁ hsb₁ ⊢
  have xD := push_ext x₂ { cls := .type "list", dict := none, data := .seq ([] : List Value).toArray }
  have nD := none_at_end x₂
  have fD := frozen_at_end x₂
  have mD := mods_at_end X x₂
  have gD : (s₂.heap.push { cls := .type "list", dict := none, data := .seq ([] : List Value).toArray }).get? s₂.heap.objs.size = some { cls := .type "list", dict := none, data := .seq ([] : List Value).toArray } := Heap.get?_push_size _ rfl
  have nC := none_at_end xD
  have fC := frozen_at_end xD
  generalize hD : s₂.heap.objs.size = D at *
  generalize hH2 : s₂.heap.push { cls := .type "list", dict := none, data := .seq ([] : List Value).toArray } = H2 at *
  dsimp only at hns₁ hsb₁ nC fC ⊢
  have hDC : D ≠ H2.objs.size := Nat.ne_of_lt (Heap.lt_size gD)
  have k₁ : ∀ b o, H2.get? b = some o → h₁.get? b = some o := fun b o e => hsb₁.extBut b o (Nat.ne_of_lt (Heap.lt_size e)) (Heap.get?_push_of_some _ e)
  have x₁ : Ext s g { s₂ with heap := h₁, toks := s₂.toks + ([] : List (Str × Value)).length } g₂ := xD.trans (Ext.heap (s := { s₂ with heap := H2 }) xD.gs k₁)
  generalize hC : H2.objs.size = C at *
  have hID : I ≠ D := fun q => by
    obtain ⟨o, e⟩ := r.alive I (r.W.sub _ (by simp))
    exact absurd (Heap.lt_size e) (by rw [q, ← hD]; exact Nat.lt_irrefl _)
  have fpD : ∀ b ∈ fp, b ≠ D := fun b hb q => by
    obtain ⟨o, e⟩ := r.alive b hb
    exact absurd (Heap.lt_size e) (by rw [q, ← hD]; exact Nat.lt_irrefl _)
  have fpC : ∀ b ∈ fp, b ≠ C := fun b hb q => by
    obtain ⟨o, e⟩ := r.alive b hb
    have e2 : H2.get? b = some o := by rw [← hH2]; exact Heap.get?_push_of_some _ e
    exact absurd (Heap.lt_size e2) (by rw [q, ← hC]; exact Nat.lt_irrefl _)
  have fpP : ∀ b ∈ fp, b ≠ p := fun b hb q => by
    rcases r.apart b hb with h | ⟨o, h⟩
    · rw [q, hp] at h; cases h
    · rw [q, gp₂] at h; cases h
  have pI : p ≠ I := fun q => fpP I (r.W.sub _ (by simp)) q.symm
  have pD : p ≠ D := fun q => by rw [q, nD] at hp; cases hp
  have pC : p ≠ C := fun q => by rw [q, nC] at hp; cases hp
  have hid : (hideAll s.heap [p]).get? p = none := hideAll_none _ (by simp)
  have hidn : ∀ b, s.heap.get? b = none → (hideAll s.heap [p]).get? b = none := fun b hb => by
    cases q : (hideAll s.heap [p]).get? b with
    | none => rfl
    | some o => rw [of_hideAll _ q] at hb; cases hb
  have TT : TopOk F.c (hideAll s.heap [p]) := X.ok.top.keeps fun b o e => hideAll_get _ (X.base.keep b o e) (by simp; rintro rfl; rw [h0] at e; cases e)
  have Y : St (F.compP scope cl p C g s) Γc none g₂ { s₂ with heap := h₁, toks := s₂.toks + ([] : List (Str × Value)).length } := by
    refine ⟨⟨fun b o e => x₁.keep b o (of_hideAll _ e), x₁.gg, x₁.gs, fun a o e => (x₁.gf a o e).imp id (hidn a), x₁.sh⟩, ⟨hkind, X.ok.glob, X.ok.blt, hidn _ nC, TT, X.ok.room, X.ok.base.mono X.base.gg⟩, _, hns₁, fC, fun y d hy => ?_, fun _ _ _ e => by cases e⟩
    obtain ⟨h1, h2, h3, h4⟩ := hΓ y d hy
    obtain ⟨m, L⟩ := X.loc
    rcases L.loc y d h1 with ⟨k, _⟩ | ⟨_, ca, o, v, q1, q2, q3, q4⟩
    · rw [h2] at k; cases k
    · exact .inr ⟨h3, ca, o, v, h4.trans q1, x₁.gg _ _ q2, q3, q4.mono x₁.gg⟩
  have PY : PoolIn (F.compP scope cl p C g s) g₂ { s₂ with heap := h₁, toks := s₂.toks + ([] : List (Str × Value)).length } p q xs (spot + 0) := ⟨⟨tp, np, x₁.keep _ _ hp⟩, gp₂, hid, pC, hq.mono x₁.gg⟩
  have loop : codeAny F.M F.A (.compLoop (.ListComp elt [⟨.Name x px, iter, [], 0⟩] scope pos) 0 (.ref I) (.ref D) (compEnvC scope cl C F.env)) (compPost F.M F.A (fun _ _ => False) none (fun v s' => ∃ g', ExtP p s g s' g' ∧ Rep F.c g' v (.lst ((List.range n).map out)) ∧ PoolIn F g' s' p q xs (spot + n)) (.ref D) C) { s₂ with heap := h₁, toks := s₂.toks + ([] : List (Str × Value)).length } := by
    refine codeAny_compLoop_list (fun k s' => ∃ i g' ys, k = n - i ∧ i ≤ n ∧ St (F.compP scope cl p C g s) Γc none g' s' ∧ PP i s'.heap ∧ Apart (F.compP scope cl p C g s) none g' s' fp [I] ∧ (∀ a o, g₂ a = some o → g' a = some o) ∧
        s'.heap.PlainList D ys ∧ g' D = none ∧ Paired (RepS g') ys.toList ((List.range i).map out) ∧ PoolIn (F.compP scope cl p C g s) g' s' p q xs (spot + i)) ?_ n
      ⟨0, g₂, #[], rfl, Nat.zero_le _, Y, r.W.frame _ _ _ r.st (fun b _ o e => k₁ b o (by rw [← hH2]; exact Heap.get?_push_of_some _ e)), ⟨r.W.sub, fun b hb => ?_, fpC, fun _ _ _ _ _ e => (by cases e), fun b hb => ?_, fun b hb => ?_⟩, fun _ _ e => e, ⟨_, k₁ _ _ gD⟩, fD, .nil, PY⟩ (ht I)
    rotate_left
    · obtain ⟨o, e⟩ := r.alive b hb
      exact ⟨o, k₁ b o (by rw [← hH2]; exact Heap.get?_push_of_some _ e)⟩
    · simp at hb; rw [hb]; exact r.thaw
    · simp at hb; rw [hb]; exact hidn _ r.fresh
    rintro k s' ⟨i, g', ys, rfl, hi, X', hP', ap', hg', hys, gD', hpr, PP'⟩
    have hbI : I ∈ fp := r.W.sub _ (by simp)
    obtain ⟨⟨tp', np', hp'⟩, gp', _, _, hq'⟩ := id PP'
    by_cases hlt : i < n
    · refine r.W.item i s' _ _ hlt hP' fun v h' tk hv hS' hk' => ?_
      have X₃ : St (F.compP scope cl p C g s) Γc none g' { s' with heap := h', toks := tk } := X'.alter (p := I) (fun b o hb e => hk' b o (by simpa using hb) e) (ap'.noL _ hbI) (ap'.thawed _ (by simp)) (hidn _ r.fresh) fun _ _ _ e => by cases e
      refine wpAny_assign_Name (X₃.stored (lookup_relabel_local hx) (fun _ _ _ e => by cases e) (r.rep i v g' hlt hv hg') fun s₄ X₄ hk₄ => ?_)
      have P₄ : PoolIn (F.compP scope cl p C g s) g' s₄ p q xs (spot + i) := ⟨⟨tp', np', hk₄ _ _ pC (hk' _ _ (by simpa using pI) hp')⟩, gp', hid, pC, hq'⟩
      refine wpAny_mono (helt i hlt C s₄ g' X₄ P₄) (fun y s₅ h₅ => ?_) fun _ _ f => f.elim
      obtain ⟨g₅, r₅, x₅, P₅⟩ := h₅
      have X₅ := (X₄.extP x₅ hid pC gp').weak (Γ' := Γc) (fun y d hy => by
        rw [List.lookup_cons]
        split
        · rename_i q
          have q : y = x := by simpa using q
          obtain ⟨_, _, h3, _⟩ := hΓ y d hy
          rw [q] at h3
          have := lookup_relabel_local (env := F.env) hx
          rw [show (relabel scope F.env).names.lookup x = some .local from this] at h3
          cases h3
        · exact hy)
      have up : ∀ b o, b ≠ C → b ≠ I → b ≠ p → s'.heap.get? b = some o → s₅.heap.get? b = some o := fun b o h1 h2 h3 e => x₅.keep b o h3 (hk₄ b o h1 (hk' b o (by simpa using h2) e))
      have hys₅ : s₅.heap.PlainList D ys := hys.at fun o e => up D o hDC (Ne.symm hID) (Ne.symm pD) e
      have gD₅ : g₅ D = none := by
        obtain ⟨nn, e⟩ := hys
        exact none_of_extP x₅ (hk₄ _ _ hDC (hk' D _ (by simpa using Ne.symm hID) e)) gD'
      have hlen : ys.toList.length = i := by have := hpr.length; simpa using this
      refine wpAny_list_append_plain (hsz := by have : ys.size = i := by simpa using hlen
                                                rw [this]; exact Nat.le_trans (Nat.le_trans (Nat.le_of_lt hlt) hz) (by decide)) hys₅ fun h₆ hl₆ hs₆ => ?_
      have X₆ : St (F.compP scope cl p C g s) Γc none g₅ { s₅ with heap := h₆ } := X₅.alter (p := D) (t := s₅.toks) (fun b o hb e => hs₆.extBut b o hb e) hDC gD₅ (hidn _ nD) fun _ _ _ e => by cases e
      have hk6 : ∀ b ∈ fp, ∀ o, ({ s' with heap := h', toks := tk } : Shared).heap.get? b = some o → h₆.get? b = some o := fun b hb o e => hs₆.extBut b o (fpD b hb) (x₅.keep b o (fpP b hb) (hk₄ b o (fpC b hb) e))
      obtain ⟨⟨tp₅, np₅, hp₅⟩, gp₅, _, _, hq₅⟩ := P₅
      refine ⟨n - (i + 1), by omega, i + 1, g₅, ys.push y, rfl, hlt, X₆, r.W.frame _ _ _ hS' hk6, ⟨ap'.sub, fun b hb => ?_, ap'.noL, ap'.noM, fun b hb => ?_, ap'.fresh⟩, fun a o e => x₅.gg a o (hg' a o e), hl₆, gD₅, ?_, ⟨⟨tp₅, np₅, hs₆.extBut _ _ pD hp₅⟩, gp₅, hid, pC, hq₅⟩⟩
      · by_cases q : b = I
        · subst q; obtain ⟨o, e⟩ := r.live _ _ hS'; exact ⟨o, hk6 _ hb o e⟩
        · obtain ⟨o, e⟩ := ap'.live b hb; exact ⟨o, hk6 b hb o (hk' b o (by simpa using q) e)⟩
      · have hb' : b = I := by simpa using hb
        subst hb'
        obtain ⟨o, e⟩ := r.live _ _ hS'
        exact none_of_extP x₅ (hk₄ _ o (fpC _ hbI) e) (ap'.thawed _ (by simp))
      · rw [Array.toList_push, List.range_succ, List.map_append]
        exact paired_app (RepSs.mono x₅.gg hpr) (.cons r₅ .nil)
    · have hin : i = n := by omega
      subst hin
      refine r.W.done s' _ _ hP' fun h' tk hk' => ?_
      have X₃ : St (F.compP scope cl p C g s) Γc none g' { s' with heap := h', toks := tk } := X'.alter (p := I) (fun b o hb e => hk' b o (by simpa using hb) e) (ap'.noL _ hbI) (ap'.thawed _ (by simp)) (hidn _ r.fresh) fun _ _ _ e => by cases e
      obtain ⟨nn, eY⟩ := hys
      obtain ⟨m, L⟩ := X₃.loc
      have eD := hk' D _ (by simpa using Ne.symm hID) eY
      have eP := hk' p _ (by simpa using pI) hp'
      refine ⟨m, L.ns, fun h'' hs'' => ?_⟩
      have gC : g' C = none := L.gL
      have x' : ExtP p s g { s' with heap := h'', toks := tk } (addz g' D { cls := .type "list", data := .seq ys nn }) := by
        refine ⟨fun b o hb e => hs''.extBut b o (fun q => by rw [q, nC] at e; cases e) (X₃.base.keep b o (hideAll_get _ e (by simpa using hb))), fun a o e => addz_of gD' (X₃.base.gg a o e), fun a o e => ?_, fun a o e => ?_, X₃.base.sh⟩
        · unfold addz at e
          split at e
          · rename_i q; cases e; rw [q]; exact hs''.extBut _ _ hDC eD
          · exact hs''.extBut a o (fun q => by rw [q, gC] at e; cases e) (X₃.base.gs a o e)
        · unfold addz at e
          split at e
          · rename_i q; rw [q]; exact .inr nD
          · rcases X₃.base.gf a o e with z | z
            · exact .inl z
            · refine .inr ?_
              cases w : s.heap.get? a with
              | none => rfl
              | some o' =>
                by_cases hap : a = p
                · subst hap; rw [gp'] at e; cases e
                · have := hideAll_get [p] w (by simpa using hap)
                  rw [show (F.compP scope cl p C g s).h₀.get? a = (hideAll s.heap [p]).get? a from rfl, this] at z; cases z
      have up' : ∀ b o, g' b = some o → addz g' D { cls := .type "list", data := .seq ys nn } b = some o := fun _ _ e => addz_of gD' e
      refine ⟨_, x', ⟨D, _, rfl, addz_self, ys.toList, ⟨rfl, ⟨nn, by simp⟩, rfl, rfl⟩, RepSs.mono up' hpr⟩, ⟨⟨tp', np', hs''.extBut _ _ pC eP⟩, ?_, h0, pL, hq'.mono up'⟩⟩
      unfold addz
      rw [if_neg pD]
      exact gp'
  exact codeAny_compStart_list loop (r.W.self 0 _ _ _ (r.W.frame _ _ _ r.st fun b _ o e => k₁ b o (by rw [← hH2]; exact Heap.get?_push_of_some _ e)) loop)
end
end Mine

namespace Mine
def bodyIn (K : Frag) (f : Addr) : List Stmt := match K.lookup f with
  | some ⟨_, _, .func fd, _⟩ => (match fd.body with | .stmts b => b | _ => [])
  | _ => []
def scopeIn (K : Frag) (f : Addr) : Scope := match K.lookup f with
  | some ⟨_, _, .func fd, _⟩ => fd.scope
  | _ => { kind := .function, names := [], isGenerator := false, isCoroutine := false }
theorem of_body {K : Frag} {f : Addr} {oc : Value} {od : Option Addr} {fd : FuncData} {osl : Array (Option Value)} {body : List Stmt} {sc : Scope} (P : List Stmt → Scope → Prop) (ho : K.lookup f = some ⟨oc, od, .func fd, osl⟩) (hb : fd.body = .stmts body) (hs : fd.scope = sc) (h : P body sc) : P (bodyIn K f) (scopeIn K f) := by
  unfold bodyIn scopeIn
  rw [ho]
  simp only [hb, hs]
  exact h

theorem t_intty : bootBuiltins "int" = some (.type "int") := by decide +kernel
theorem ints_paired {g : Fz} : ∀ {vs : List Value} {ns : List Int}, IntsAre vs ns → Paired (RepS g) vs (li ns)
  | _, _, .nil => .nil
  | _, _, .cons _ _ h => .cons ⟨_, rfl⟩ (ints_paired h)
section
variable {F : Fm} {Γ Γ' : Gam} {μ : Mu} {p q : Addr} {xs : List Int} {spot : Nat}

theorem Raw.congr {iter : Expr} {n : Nat} {items items' : Nat → D} (h : Raw F Γ μ iter n items) (e : ∀ i, i < n → items i = items' i) : Raw F Γ μ iter n items' := fun s g X =>
  wpAny_mono (h s g X) (fun x s₁ h₁ => wpAny_mono h₁ (fun it s₂ ⟨g₂, I, fp, Pv, S, r⟩ => ⟨g₂, I, fp, Pv, S, ⟨r.is, r.ext, r.W, r.st, r.live, fun i v g' hi hv hg => e i hi ▸ r.rep i v g' hi hv hg, r.alive, r.apart, r.fresh, r.thaw⟩⟩) fun _ _ f => f) fun _ _ f => f
theorem raw_li {e : Expr} {l : List Int} (h : Ev F Γ μ e (.lst (li l))) : Raw F Γ μ e l.length (fun i => .i (l.getD i 0)) := by
  have := raw_list h
  rw [li_len] at this
  exact this.congr fun i _ => by rw [li_getD]
theorem raw_ri {e : Expr} {l : List Int} (h : Ev F Γ μ e (.lst (ri l))) : Raw F Γ μ e l.length (fun i => .r (l.getD i 0) 1) := by
  have := raw_list h
  rw [ri_len] at this
  exact this.congr fun i hi => by
    have := ri_get hi
    simp only [List.getD, this, Option.getD_some]

/-- «script[:k]» -/
theorem evn_script {value e : Expr} {pp pos : Pos} {a : Addr} {vs : List Value} {ns : List Int} {k : Nat} (hx : Ev F Γ μ value (.adr a)) (he : Ev F Γ μ e (.i k)) (hl : F.h₀.IsList a vs.toArray) (hI : IntsAre vs ns) (hz : ns.length ≤ 63)
    (hs : ∀ a b, subscripted (.Slice none (some e) none pp) false (.ref a) (.ref b) = operate [.ref b, .ref a] (getItem (.ref a) (.ref b))) (ht : ∀ a r, letTemporaryGo value (.ref a) r = pure ()) :
    Evn F Γ μ (.Subscript value (.Slice none (some e) none pp) pos) (.lst (li (ns.take k))) := fun s g X => by
  refine Subscript_ (wpAny_mono (hx s g X) (fun v s₁ ⟨g₁, x₁, r₁⟩ => wpAny_Slice (wpAny_evalPart_none (wpAny_evalPart_some (wpAny_mono (he s₁ g₁ (X.ext x₁)) (fun u s₂ ⟨g₂, x₂, ⟨t, r₂⟩⟩ => wpAny_evalPart_none ?_) fun _ _ f => f)))) fun _ _ f => f)
  have r₁ : v = .ref a := r₁
  subst r₁ r₂
  have x := x₁.trans x₂
  have q := ints_paired (g := g₂) hI
  have e1 := q.length
  rw [li_len] at e1
  have hl₂ : s₂.heap.IsList a vs.toArray := hl.at fun o e => x.keep _ _ (X.base.keep _ _ e)
  refine slice_listK (s := s₂) (items := vs.toArray) hl₂ .none (.int _ _) ?_ (hs _ _) (ht _) (by simp [e1]; exact Nat.le_trans hz (by decide))
  have y := push_ext x { cls := .type "slice", data := .fields #[.none, .int k t, .none] }
  have hsz : (s₂.heap.push { cls := .type "slice", data := .fields #[.none, .int k t, .none] }).objs.size = s₂.heap.objs.size + 1 := Heap.size_push _ _
  refine ⟨g₂, s₂.heap.objs.size + 1, { cls := Value.type "list", data := Data.seq (slicePick vs.toArray none (some (k : Int)) none) }, push_ext y _, rfl, ?_, ?_, ?_, ⟨vs.take k, ⟨rfl, ⟨_, by rw [slicePick_upto']⟩, rfl, rfl⟩, ?_⟩, ?_⟩
  · have := none_at_end y; rwa [hsz] at this
  · have := frozen_at_end y; rwa [hsz] at this
  · have := Heap.get?_push_size (s₂.heap.push { cls := .type "slice", data := .fields #[.none, .int k t, .none] }) (o := { cls := Value.type "list", data := Data.seq (slicePick vs.toArray none (some (k : Int)) none) }) rfl
    rwa [hsz] at this
  · have := paired_take k q
    rwa [show (li ns).take k = li (ns.take k) by simp [li]] at this
  · have := mods_at_end X y; rwa [hsz] at this

theorem ev_int_call {e : Expr} {np pos : Pos} {i : Int} (he : Ev F Γ μ e (.i i)) (hg : nsIn F.c.K mainGlobals "int" = some none) (hk : F.env.kindOf "int" = some .globalImplicit) (hs : starEach [e] F.env = [(false, eval e F.env)]) :
    Ev F Γ μ (.Call (.Name "int" np) [e] [] pos) (.i i) := fun s g X => by
  refine Call_ (name_blt X hg t_intty (by decide) hk (by decide) (PyProof.Rows.callWith_type1 (wpAny_items_cons (wpAny_mono (he s g X) (fun v s₁ ⟨g₁, x₁, r⟩ => wpAny_items_nil ?_) fun _ _ f => f) hs) hs rfl))
  obtain ⟨t, rfl⟩ := r
  exact call_int_int ⟨g₁, x₁, t, rfl⟩

/-- «pool = [xs, 0]», the pool's name a cell -/
theorem ex_pool {e₁ e₂ : Expr} {pp lp pos : Pos} {ca : Addr} {s : Shared} {g : Fz} {R : Flow → Shared → Prop} (X : St F Γ none g s) (h₁ : Ev F Γ none e₁ (.lst (li xs))) (h₂ : Ev F Γ none e₂ (.i 0)) (hk : F.env.kindOf "pool" = some .cell) (hca : F.env.cells.lookup ("pool" : Str) = some ca)
    (hcell : s.heap.IsCell ca none) (h0 : F.h₀.get? ca = none) (gca : g ca = none) (hne : ca ≠ F.env.locals)
    (hs1 : starEach [e₁, e₂] F.env = [(false, eval e₁ F.env), (false, eval e₂ F.env)]) (hs2 : starEach [e₂] F.env = [(false, eval e₂ F.env)])
    (hs : swapsWith (.List [e₁, e₂] lp) (some (.Name "pool" pp)) pos.line F.env = pure false)
    (hQ : ∀ g' s' p q, St F (("pool", .adr p) :: Γ) none g' s' → PoolIn F g' s' p q xs 0 → R .next s') :
    wpAny F.M F.A (exec (.Assign [.Name "pool" pp] (.List [e₁, e₂] lp) pos) F.env) R (fun _ _ => False) s := by
  refine wpAny_Assign_Name (wpAny_List (wpAny_items_cons (wpAny_mono (h₁ s g X) (fun v s₁ ⟨g₁, x₁, r₁⟩ => wpAny_items_cons (wpAny_mono (h₂ s₁ g₁ (X.ext x₁)) (fun u s₂ ⟨g₂, x₂, t, r₂⟩ => wpAny_items_nil ?_) fun _ _ f => f) hs2) fun _ _ f => f) (by rw [hs1, hs2]))) hs
  subst r₂
  obtain ⟨q, oq, rfl, hoq, rq⟩ := r₁
  refine ⟨by show 2 ≤ sizeLine; decide, ?_⟩
  have x := x₁.trans x₂
  obtain ⟨oc, hoc, hcd⟩ := hcell
  have gca₂ := none_of_ext x hoc gca
  have y := push_ext x { cls := .type "list", data := .seq [Value.ref q, .int 0 t].toArray }
  have hp : (s₂.heap.push { cls := .type "list", data := .seq [Value.ref q, .int 0 t].toArray }).get? s₂.heap.objs.size = some { cls := .type "list", data := .seq [Value.ref q, .int 0 t].toArray } := Heap.get?_push_size _ rfl
  have fp := none_at_end x
  have gp := frozen_at_end x
  generalize hH : s₂.heap.push { cls := .type "list", data := .seq [Value.ref q, .int 0 t].toArray } = H at hp y ⊢
  generalize hP : s₂.heap.objs.size = p at hp fp gp ⊢
  have X₃ := X.ext y
  have pca : p ≠ ca := fun e => by rw [e, hoc] at fp; cases fp
  refine wpAny_storeName_cell X.ok.kind hk hca ⟨oc, y.keep _ _ hoc, hcd⟩ fun h' hc' hsb => ?_
  obtain ⟨o', ho', hd'⟩ := hc'
  have X₄ : St F Γ none g₂ { s₂ with heap := h' } := X₃.alter (p := ca) (t := s₂.toks) (fun b o hb e => hsb.extBut b o hb e) hne gca₂ h0 fun _ _ _ e => by cases e
  have up : ∀ b o, g₂ b = some o → addz g₂ ca o' b = some o := fun _ _ e => addz_of gca₂ e
  have pL : p ≠ F.env.locals := ne_locals X fp
  refine hQ (addz g₂ ca o') _ p q ⟨X₄.base.freeze ho' gca₂ h0, X₄.ok, ?_⟩ ⟨⟨t, _, hsb.extBut _ _ pca hp⟩, ?_, none_h0 (s₁ := s) (g₁ := g) X fp, pL, ⟨q, oq, rfl, up _ _ (x₂.gg _ _ hoq), (rq.mono x₂.gg).mono up⟩⟩
  · obtain ⟨m, L⟩ := X₄.loc
    refine ⟨m, L.ns, ?_, fun y d hy => ?_, fun _ _ _ e => by cases e⟩
    · unfold addz; rw [if_neg (Ne.symm hne)]; exact L.gL
    · rw [List.lookup_cons] at hy
      split at hy
      · rename_i e
        have e : y = "pool" := by simpa using e
        subst e
        cases hy
        exact .inr ⟨hk, ca, o', .ref p, hca, addz_self, hd', rfl⟩
      · rcases L.loc y d hy with ⟨k, v, hv, r⟩ | ⟨k, c', o, v, h1, h2, h3, r⟩
        · exact .inl ⟨k, v, hv, r.mono up⟩
        · exact .inr ⟨k, c', o, v, h1, up _ _ h2, h3, r.mono up⟩
  · unfold addz
    rw [if_neg pca]
    exact gp

/-- «x = 1 + _law_draw(pool, e)» -/
theorem ex_draw (hc : CxOk F.c) {x : Str} {xp np pp cp bp pos : Pos} {kk : Nat} {kp : Pos} {e : Expr} {many : Int} {s : Shared} {g : Fz} {R : Flow → Shared → Prop} (X : St F Γ none g s) (P : PoolIn F g s p q xs spot) (hpool : Γ.lookup ("pool" : Str) = some (D.adr p)) (he : Ev F Γ none e (.i many)) (hm : 0 < many) (hxs : xs.length ≤ 5) (hs : spot ≤ 100) (hk : 2 ≤ F.k)
    (hn : F.env.kindOf "_law_draw" = some .globalImplicit) (hs1 : starEach [.Name "pool" pp, e] F.env = (false, eval (.Name "pool" pp) F.env) :: starEach [e] F.env) (hs2 : starEach [e] F.env = [(false, eval e F.env)]) (hx : F.env.kindOf x = some .local)
    (hsw : swapsWith (.BinOp (.Constant (.int 1) kk kp) .Add (.Call (.Name "_law_draw" np) [.Name "pool" pp, e] [] cp) bp) (some (.Name x xp)) pos.line F.env = pure false)
    (hQ : ∀ g' s', St F ((x, .i (1 + drawF xs spot many)) :: Γ) none g' s' → PoolIn F g' s' p q xs (spot + 1) → R .next s') :
    wpAny F.M F.A (exec (.Assign [.Name x xp] (.BinOp (.Constant (.int 1) kk kp) .Add (.Call (.Name "_law_draw" np) [.Name "pool" pp, e] [] cp) bp) pos) F.env) R (fun _ _ => False) s := by
  refine wpAny_Assign_Name (wpAny_BinOp (wpAny_Constant_int ?_)) hsw
  have X₁ := X.ext (X.refl.toks (s.toks + 1))
  have P₁ := P.ext (X.refl.toks (s.toks + 1))
  refine wpAny_mono (draw_expr hc X₁ P₁ hpool he hm hxs hs hk hn hs1 hs2) (fun v s₂ ⟨g₂, ⟨tk, hv⟩, x₂, X₂, P₂⟩ => ?_) fun _ _ f => f
  subst hv
  refine add_int ?_
  have z := X₂.refl.toks (s₂.toks + 1)
  refine (X₂.ext z).stored (d := .i (1 + drawF xs spot many)) hx (fun _ _ _ e => by cases e) ⟨_, rfl⟩ fun s₃ X₃ k₃ => hQ g₂ s₃ X₃ ?_
  obtain ⟨⟨t, n, hp⟩, gp, h0, pL, hq⟩ := P₂
  exact ⟨⟨t, n, k₃ _ _ pL hp⟩, gp, h0, pL, hq⟩
theorem PoolIn.stored {g : Fz} {s s' : Shared} (P : PoolIn F g s p q xs spot) (k : ∀ b o, b ≠ F.env.locals → s.heap.get? b = some o → s'.heap.get? b = some o) : PoolIn F g s' p q xs spot := by
  obtain ⟨⟨t, n, hp⟩, gp, h0, pL, hq⟩ := P
  exact ⟨⟨t, n, k _ _ pL hp⟩, gp, h0, pL, hq⟩
end
end Mine

namespace Mine

def okB (l : List Int) : Bool := decide (l.length ≤ 20) && l.all fun x => decide (x.natAbs < 9223372036854775808)
theorem ok_of {l : List Int} (h : okB l = true) : Ok l := by
  simp only [okB, Bool.and_eq_true, decide_eq_true_eq, List.all_eq_true] at h
  exact ⟨h.1, fun x hx => h.2 x hx⟩
def okDB (f : List (Int × Int)) : Bool := decide (f.length ≤ 50) && f.all fun x => decide (x.2.natAbs < 9223372036854775808)
theorem okD_of {f : List (Int × Int)} (h : okDB f = true) : OkD f := by
  simp only [okDB, Bool.and_eq_true, decide_eq_true_eq, List.all_eq_true] at h
  exact ⟨h.1, fun x hx => h.2 x hx⟩
def zpOkB : Nat → List Int → List Int → Nat → Bool
  | 0, _, _, l => decide (l = 0)
  | n + 1, f, g, l => if l = 0 then true else okB f && okB g && !f.isEmpty && !g.isEmpty && zpOkB n (if l % 2 = 1 then zm f g else f) (if 1 < l then zm g g else g) (l / 2)
theorem zpOk_of : ∀ (n : Nat) (f g : List Int) (l : Nat), zpOkB n f g l = true → zpOk n f g l
  | 0, f, g, l, h => by simpa [zpOkB, zpOk] using h
  | n + 1, f, g, l, h => by
    simp only [zpOkB, zpOk] at h ⊢
    split
    · trivial
    · rename_i hl
      rw [if_neg hl] at h
      simp only [Bool.and_eq_true, Bool.not_eq_true', List.isEmpty_eq_false_iff] at h
      obtain ⟨⟨⟨⟨h1, h2⟩, h3⟩, h4⟩, h5⟩ := h
      exact ⟨ok_of h1, ok_of h2, h3, h4, zpOk_of n _ _ _ h5⟩
def wpOkB : Nat → List Int → List Int → Nat → Bool
  | 0, _, _, l => decide (l = 0)
  | n + 1, f, b, l => if l = 0 then true else okB f && okB b && (!decide (l % 2 = 1) || okB (convs f b)) && (!decide (0 < l / 2) || okB (convs b b)) && wpOkB n (if l % 2 = 1 then convs f b else f) (if 0 < l / 2 then convs b b else b) (l / 2)
theorem wpOk_of : ∀ (n : Nat) (f b : List Int) (l : Nat), wpOkB n f b l = true → wpOk n f b l
  | 0, f, g, l, h => by simpa [wpOkB, wpOk] using h
  | n + 1, f, g, l, h => by
    simp only [wpOkB, wpOk] at h ⊢
    split
    · trivial
    · rename_i hl
      rw [if_neg hl] at h
      simp only [Bool.and_eq_true, Bool.or_eq_true, Bool.not_eq_true', decide_eq_false_iff_not] at h
      obtain ⟨⟨⟨⟨h1, h2⟩, h3⟩, h4⟩, h5⟩ := h
      refine ⟨ok_of h1, ok_of h2, fun q => ?_, fun q => ?_, wpOk_of n _ _ _ h5⟩
      · rcases h3 with h3 | h3
        · exact absurd q h3
        · exact ok_of h3
      · rcases h4 with h4 | h4
        · exact absurd q h4
        · exact ok_of h4

def gN (w : List Int) (n : Nat) : List Int := (w ++ List.replicate n 0).take (n + 1)
def iN (w : List Int) (n : Nat) : List Int := invN (gN w n) (n + 1)
def tN (w : List Int) (n : Nat) : List Int := invN (iN w n) (n + 1)
def yN (w : List Int) (n : Nat) : List Int := rv (tN w n) (n + 1) (n + 1)
def uN (w : List Int) (n : Nat) : List Int := 1 :: (yN w n).drop 2
def cN (w : List Int) (n : Nat) : List Int := convs (ders (uN w n)) (invN (uN w n) (n + 1))
def pN (w : List Int) (n : Nat) : Int := ((cN w n).getD (n - 1) 0).fdiv (Int.gcd ((cN w n).getD (n - 1) 0) n)
def qN (w : List Int) (n : Nat) : Int := (n : Int).fdiv (Int.gcd ((cN w n).getD (n - 1) 0) n)
def tI (l : List Int) (k : Nat) (f : List (Int × Int)) : Nat → List Int
  | 0 => l
  | i + 1 => (tI l k f i).set k ((tI l k f i).getD k 0 + (f.getD i (0, 0)).2 * 2 ^ (f.getD i (0, 0)).1.toNat)
def tLp (W : Nat → List (Int × Int)) (n : Nat) : Nat → List Int
  | 0 => List.replicate (n + 1) 0
  | m + 1 => tI (tLp W n m) (1 + m) (W (1 + m)) (W (1 + m)).length
def tL (w : List Int) (n : Nat) : Nat → List Int := tLp (ways true w) n
def twN (w : List Int) (n : Nat) : List Int := ((yN w n).take (n + 1)).map (2 * ·)
def reN (w : List Int) (n : Nat) : List Int := 1 :: ((twN w n).drop 1).map (0 - ·)
def eN (n : Nat) : List Int := 1 :: List.replicate n 0
def hB (f : List (Int × Int)) : Bool := f.all fun x => decide (0 ≤ x.1) && decide (x.1 ≤ 100)

/-- the same ways, reckoned in one pass a step -/
def upd : List (Int × Int) → Int → Int → List (Int × Int)
  | [], k, v => [(k, v)]
  | (a, b) :: r, k, v => if a = k then (a, b + v) :: r else (a, b) :: upd r k v
theorem upd_mem : ∀ (d : List (Int × Int)) (k v x : Int), x ∈ (upd d k v).map (·.1) → x ∈ d.map (·.1) ∨ x = k
  | [], k, v, x, h => by simp [upd] at h; exact .inr h
  | (a, b) :: r, k, v, x, h => by
    simp only [upd] at h
    split at h
    · simp only [List.map_cons, List.mem_cons] at h ⊢
      exact .inl h
    · simp only [List.map_cons, List.mem_cons] at h ⊢
      rcases h with h | h
      · exact .inl (.inl h)
      · exact (upd_mem r k v x h).imp .inr id
theorem upd_nodup : ∀ (d : List (Int × Int)) (k v : Int), (d.map (·.1)).Nodup → ((upd d k v).map (·.1)).Nodup
  | [], k, v, _ => by simp [upd]
  | (a, b) :: r, k, v, h => by
    have h' := List.nodup_cons.mp h
    simp only [upd]
    split
    · exact h
    · rename_i q
      refine List.nodup_cons.mpr ⟨fun m => ?_, upd_nodup r k v h'.2⟩
      rcases upd_mem r k v a m with m | m
      · exact h'.1 m
      · exact q m
theorem dput_ne {a b : Int} {r : List (Int × Int)} {k v : Int} (h : ¬ a = k) : dput ((a, b) :: r) k v = (a, b) :: dput r k v := by
  unfold dput
  simp only [List.any_cons, h, decide_false, Bool.false_or, List.map_cons, if_false]
  split <;> simp
theorem dget_ne {a b : Int} {r : List (Int × Int)} {k d : Int} (h : ¬ a = k) : dget ((a, b) :: r) k d = dget r k d := by
  unfold dget
  simp only [List.find?_cons, h, decide_false]
theorem upd_eq : ∀ (d : List (Int × Int)) (k v : Int), (d.map (·.1)).Nodup → dput d k (dget d k 0 + v) = upd d k v
  | [], k, v, _ => by simp [dput, dget, upd]
  | (a, b) :: r, k, v, h => by
    have h' := List.nodup_cons.mp h
    by_cases q : a = k
    · subst q
      have e : ∀ (l : List (Int × Int)) (z : Int), a ∉ l.map (·.1) → l.map (fun x => if x.1 = a then (x.1, z) else x) = l := fun l z hl => by
        induction l with
        | nil => rfl
        | cons y l ih =>
          simp only [List.map_cons, List.mem_cons, not_or] at hl ⊢
          rw [if_neg (fun q => hl.1 q.symm), ih hl.2]
      simp only [upd, if_true, dput, dget, List.any_cons, List.find?_cons, decide_true, Bool.true_or, List.map_cons]
      rw [e r _ h'.1]
    · rw [dput_ne q, dget_ne q, upd_eq r k v h'.2]
      simp only [upd, if_neg q]
def ws1F (ab : Bool) (w : List Int) (h wt : Int) (d : List (Int × Int)) : Nat → List (Int × Int)
  | 0 => d
  | j + 1 => if w.getD j 0 ≠ 0 ∧ (0 < h + 1 - (j : Int) ∨ ab = false) then upd (ws1F ab w h wt d j) (h + 1 - j) (wt * w.getD j 0) else ws1F ab w h wt d j
theorem ws1F_nodup (ab : Bool) (w : List Int) (h wt : Int) (d : List (Int × Int)) (hd : (d.map (·.1)).Nodup) : ∀ j, ((ws1F ab w h wt d j).map (·.1)).Nodup
  | 0 => hd
  | j + 1 => by
    simp only [ws1F]
    split
    · exact upd_nodup _ _ _ (ws1F_nodup ab w h wt d hd j)
    · exact ws1F_nodup ab w h wt d hd j
theorem ws1_eq (ab : Bool) (w : List Int) (h wt : Int) (d : List (Int × Int)) (hd : (d.map (·.1)).Nodup) : ∀ j, ws1 ab w h wt d j = ws1F ab w h wt d j
  | 0 => rfl
  | j + 1 => by
    simp only [ws1, ws1F, ws1_eq ab w h wt d hd j]
    split
    · exact upd_eq _ _ _ (ws1F_nodup ab w h wt d hd j)
    · rfl
def ws2F (ab : Bool) (w : List Int) (f : List (Int × Int)) : Nat → List (Int × Int)
  | 0 => []
  | i + 1 => ws1F ab w (f.getD i (0, 0)).1 (f.getD i (0, 0)).2 (ws2F ab w f i) w.length
theorem ws2F_nodup (ab : Bool) (w : List Int) (f : List (Int × Int)) : ∀ i, ((ws2F ab w f i).map (·.1)).Nodup
  | 0 => List.nodup_nil
  | i + 1 => ws1F_nodup _ _ _ _ _ (ws2F_nodup ab w f i) _
theorem ws2_eq (ab : Bool) (w : List Int) (f : List (Int × Int)) : ∀ i, ws2 ab w f i = ws2F ab w f i
  | 0 => rfl
  | i + 1 => by
    simp only [ws2, ws2F, ws2_eq ab w f i]
    exact ws1_eq _ _ _ _ _ (ws2F_nodup ab w f i) _
def waysF (ab : Bool) (w : List Int) : Nat → List (Int × Int)
  | 0 => [(0, 1)]
  | t + 1 => ws2F ab w (waysF ab w t) (waysF ab w t).length
theorem ways_eq (ab : Bool) (w : List Int) : ∀ t, ways ab w t = waysF ab w t
  | 0 => rfl
  | t + 1 => by simp only [ways, waysF, ways_eq ab w t, ws2_eq]
theorem ways_fun (ab : Bool) (w : List Int) : ways ab w = waysF ab w := funext (ways_eq ab w)

def lawWB (wt wf : Nat → List (Int × Int)) : Bool := (List.range 7).all fun t => okDB (wt t) && okDB (wf t) && (decide (t = 0) || hB (wt t))
def lawNB (wt wf : Nat → List (Int × Int)) (w : List Int) (n : Nat) : Bool :=
  okB (gN w n) && decide ((gN w n).getD 0 0 = 1) && okB (iN w n) && decide ((iN w n).getD 0 0 = 1) && okB (tN w n) && okB (yN w n) &&
  ((List.range (n + 1)).all fun i => okB (rr (tN w n) (n + 1) i) && decide ((rr (tN w n) (n + 1) i).getD i 0 % ((1 : Int) + i) = 0)) &&
  decide ((yN w n).drop 1 = uN w n) && okB (uN w n) && okB (invN (uN w n) (n + 1)) && okB (ders (uN w n)) && okB (cN w n) && decide ((cN w n).length = n) &&
  decide (0 < qN w n) && okB [pN w n, qN w n] && decide (ratI (n * pN w n) (1 * qN w n) = .rat (dget (wf n) 0 0) 1) &&
  okB (tLp wt n n) && okB (twN w n) && okB (reN w n) && okB (convs (tLp wt n n) (reN w n)) && okB (convs (twN w n) (eN n)) && decide (convs (tLp wt n n) (reN w n) = convs (twN w n) (eN n)) &&
  zpOkB 4 [1] w n && okB (zpw 4 [1] w n)
def lawKB (wt : Nat → List (Int × Int)) (w : List Int) (n k : Nat) : Bool :=
  decide (ratI (k * (zpw 4 [1] w n ++ List.replicate n 0).getD (n - k) 0) n = .rat (dget (wt n) k 0) 1) &&
  wpOkB 4 (1 :: List.replicate (n + 1) 0) (yN w n) k && decide (n < (wpow 4 (1 :: List.replicate (n + 1) 0) (yN w n) k).length) && decide ((wpow 4 (1 :: List.replicate (n + 1) 0) (yN w n) k).getD n 0 = dget (wt n) k 0)
def lawAll (w : List Int) : Bool := lawWB (waysF true w) (waysF false w) && (List.range 6).all fun m => lawNB (waysF true w) (waysF false w) w (m + 1) && (List.range (m + 1)).all fun j => lawKB (waysF true w) w (m + 1) (j + 1)
theorem la_000 : lawAll [1, 0, 0, 0] = true := by decide +kernel
theorem la_001 : lawAll [1, 0, 0, 1] = true := by decide +kernel
theorem la_002 : lawAll [1, 0, 0, 2] = true := by decide +kernel
theorem la_003 : lawAll [1, 0, 0, 3] = true := by decide +kernel
theorem la_010 : lawAll [1, 0, 1, 0] = true := by decide +kernel
theorem la_011 : lawAll [1, 0, 1, 1] = true := by decide +kernel
theorem la_012 : lawAll [1, 0, 1, 2] = true := by decide +kernel
theorem la_013 : lawAll [1, 0, 1, 3] = true := by decide +kernel
theorem la_020 : lawAll [1, 0, 2, 0] = true := by decide +kernel
theorem la_021 : lawAll [1, 0, 2, 1] = true := by decide +kernel
theorem la_022 : lawAll [1, 0, 2, 2] = true := by decide +kernel
theorem la_023 : lawAll [1, 0, 2, 3] = true := by decide +kernel
theorem la_030 : lawAll [1, 0, 3, 0] = true := by decide +kernel
theorem la_031 : lawAll [1, 0, 3, 1] = true := by decide +kernel
theorem la_032 : lawAll [1, 0, 3, 2] = true := by decide +kernel
theorem la_033 : lawAll [1, 0, 3, 3] = true := by decide +kernel
theorem la_100 : lawAll [1, 1, 0, 0] = true := by decide +kernel
theorem la_101 : lawAll [1, 1, 0, 1] = true := by decide +kernel
theorem la_102 : lawAll [1, 1, 0, 2] = true := by decide +kernel
theorem la_103 : lawAll [1, 1, 0, 3] = true := by decide +kernel
theorem la_110 : lawAll [1, 1, 1, 0] = true := by decide +kernel
theorem la_111 : lawAll [1, 1, 1, 1] = true := by decide +kernel
theorem la_112 : lawAll [1, 1, 1, 2] = true := by decide +kernel
theorem la_113 : lawAll [1, 1, 1, 3] = true := by decide +kernel
theorem la_120 : lawAll [1, 1, 2, 0] = true := by decide +kernel
theorem la_121 : lawAll [1, 1, 2, 1] = true := by decide +kernel
theorem la_122 : lawAll [1, 1, 2, 2] = true := by decide +kernel
theorem la_123 : lawAll [1, 1, 2, 3] = true := by decide +kernel
theorem la_130 : lawAll [1, 1, 3, 0] = true := by decide +kernel
theorem la_131 : lawAll [1, 1, 3, 1] = true := by decide +kernel
theorem la_132 : lawAll [1, 1, 3, 2] = true := by decide +kernel
theorem la_133 : lawAll [1, 1, 3, 3] = true := by decide +kernel
theorem la_200 : lawAll [1, 2, 0, 0] = true := by decide +kernel
theorem la_201 : lawAll [1, 2, 0, 1] = true := by decide +kernel
theorem la_202 : lawAll [1, 2, 0, 2] = true := by decide +kernel
theorem la_203 : lawAll [1, 2, 0, 3] = true := by decide +kernel
theorem la_210 : lawAll [1, 2, 1, 0] = true := by decide +kernel
theorem la_211 : lawAll [1, 2, 1, 1] = true := by decide +kernel
theorem la_212 : lawAll [1, 2, 1, 2] = true := by decide +kernel
theorem la_213 : lawAll [1, 2, 1, 3] = true := by decide +kernel
theorem la_220 : lawAll [1, 2, 2, 0] = true := by decide +kernel
theorem la_221 : lawAll [1, 2, 2, 1] = true := by decide +kernel
theorem la_222 : lawAll [1, 2, 2, 2] = true := by decide +kernel
theorem la_223 : lawAll [1, 2, 2, 3] = true := by decide +kernel
theorem la_230 : lawAll [1, 2, 3, 0] = true := by decide +kernel
theorem la_231 : lawAll [1, 2, 3, 1] = true := by decide +kernel
theorem la_232 : lawAll [1, 2, 3, 2] = true := by decide +kernel
theorem la_233 : lawAll [1, 2, 3, 3] = true := by decide +kernel
theorem la_300 : lawAll [1, 3, 0, 0] = true := by decide +kernel
theorem la_301 : lawAll [1, 3, 0, 1] = true := by decide +kernel
theorem la_302 : lawAll [1, 3, 0, 2] = true := by decide +kernel
theorem la_303 : lawAll [1, 3, 0, 3] = true := by decide +kernel
theorem la_310 : lawAll [1, 3, 1, 0] = true := by decide +kernel
theorem la_311 : lawAll [1, 3, 1, 1] = true := by decide +kernel
theorem la_312 : lawAll [1, 3, 1, 2] = true := by decide +kernel
theorem la_313 : lawAll [1, 3, 1, 3] = true := by decide +kernel
theorem la_320 : lawAll [1, 3, 2, 0] = true := by decide +kernel
theorem la_321 : lawAll [1, 3, 2, 1] = true := by decide +kernel
theorem la_322 : lawAll [1, 3, 2, 2] = true := by decide +kernel
theorem la_323 : lawAll [1, 3, 2, 3] = true := by decide +kernel
theorem la_330 : lawAll [1, 3, 3, 0] = true := by decide +kernel
theorem la_331 : lawAll [1, 3, 3, 1] = true := by decide +kernel
theorem la_332 : lawAll [1, 3, 3, 2] = true := by decide +kernel
theorem la_333 : lawAll [1, 3, 3, 3] = true := by decide +kernel
theorem law_all (a b c : Nat) (ha : a < 4) (hb : b < 4) (hc : c < 4) : lawAll [1, (a : Int), (b : Int), (c : Int)] = true := by
  match a, ha, b, hb, c, hc with
  | 0, _, 0, _, 0, _ => exact la_000
  | 0, _, 0, _, 1, _ => exact la_001
  | 0, _, 0, _, 2, _ => exact la_002
  | 0, _, 0, _, 3, _ => exact la_003
  | 0, _, 1, _, 0, _ => exact la_010
  | 0, _, 1, _, 1, _ => exact la_011
  | 0, _, 1, _, 2, _ => exact la_012
  | 0, _, 1, _, 3, _ => exact la_013
  | 0, _, 2, _, 0, _ => exact la_020
  | 0, _, 2, _, 1, _ => exact la_021
  | 0, _, 2, _, 2, _ => exact la_022
  | 0, _, 2, _, 3, _ => exact la_023
  | 0, _, 3, _, 0, _ => exact la_030
  | 0, _, 3, _, 1, _ => exact la_031
  | 0, _, 3, _, 2, _ => exact la_032
  | 0, _, 3, _, 3, _ => exact la_033
  | 1, _, 0, _, 0, _ => exact la_100
  | 1, _, 0, _, 1, _ => exact la_101
  | 1, _, 0, _, 2, _ => exact la_102
  | 1, _, 0, _, 3, _ => exact la_103
  | 1, _, 1, _, 0, _ => exact la_110
  | 1, _, 1, _, 1, _ => exact la_111
  | 1, _, 1, _, 2, _ => exact la_112
  | 1, _, 1, _, 3, _ => exact la_113
  | 1, _, 2, _, 0, _ => exact la_120
  | 1, _, 2, _, 1, _ => exact la_121
  | 1, _, 2, _, 2, _ => exact la_122
  | 1, _, 2, _, 3, _ => exact la_123
  | 1, _, 3, _, 0, _ => exact la_130
  | 1, _, 3, _, 1, _ => exact la_131
  | 1, _, 3, _, 2, _ => exact la_132
  | 1, _, 3, _, 3, _ => exact la_133
  | 2, _, 0, _, 0, _ => exact la_200
  | 2, _, 0, _, 1, _ => exact la_201
  | 2, _, 0, _, 2, _ => exact la_202
  | 2, _, 0, _, 3, _ => exact la_203
  | 2, _, 1, _, 0, _ => exact la_210
  | 2, _, 1, _, 1, _ => exact la_211
  | 2, _, 1, _, 2, _ => exact la_212
  | 2, _, 1, _, 3, _ => exact la_213
  | 2, _, 2, _, 0, _ => exact la_220
  | 2, _, 2, _, 1, _ => exact la_221
  | 2, _, 2, _, 2, _ => exact la_222
  | 2, _, 2, _, 3, _ => exact la_223
  | 2, _, 3, _, 0, _ => exact la_230
  | 2, _, 3, _, 1, _ => exact la_231
  | 2, _, 3, _, 2, _ => exact la_232
  | 2, _, 3, _, 3, _ => exact la_233
  | 3, _, 0, _, 0, _ => exact la_300
  | 3, _, 0, _, 1, _ => exact la_301
  | 3, _, 0, _, 2, _ => exact la_302
  | 3, _, 0, _, 3, _ => exact la_303
  | 3, _, 1, _, 0, _ => exact la_310
  | 3, _, 1, _, 1, _ => exact la_311
  | 3, _, 1, _, 2, _ => exact la_312
  | 3, _, 1, _, 3, _ => exact la_313
  | 3, _, 2, _, 0, _ => exact la_320
  | 3, _, 2, _, 1, _ => exact la_321
  | 3, _, 2, _, 2, _ => exact la_322
  | 3, _, 2, _, 3, _ => exact la_323
  | 3, _, 3, _, 0, _ => exact la_330
  | 3, _, 3, _, 1, _ => exact la_331
  | 3, _, 3, _, 2, _ => exact la_332
  | 3, _, 3, _, 3, _ => exact la_333
end Mine

namespace Mine
local macro_rules | `(tactic| walk_at "SD") => `(tactic| first | assumption | (unfold Small; decide) | omega | (simp only [Small] at *; omega) | fail "SD")

theorem draw_at {F : Fm} {Γ : Gam} {p q : Addr} {xs : List Int} {spot : Nat} {np pp pos : Pos} {e : Expr} {many : Int} {s : Shared} {g : Fz} {M : Model} {A : Around} {env : Env} {Q : Value → Shared → Prop} (X : St F Γ none g s) (P : PoolIn F g s p q xs spot) (hM : F.M = M) (hA : F.A = A) (hE : F.env = env) (hc : CxOk F.c) (hpool : Γ.lookup ("pool" : Str) = some (D.adr p)) (he : Ev F Γ none e (.i many)) (hm : 0 < many) (hxs : xs.length ≤ 5) (hs : spot ≤ 100) (hk : 2 ≤ F.k)
    (hn : F.env.kindOf "_law_draw" = some .globalImplicit) (hs1 : starEach [.Name "pool" pp, e] F.env = (false, eval (.Name "pool" pp) F.env) :: starEach [e] F.env) (hs2 : starEach [e] F.env = [(false, eval e F.env)])
    (hQ : ∀ g' s' tk, ExtP p s g s' g' → PoolIn F g' s' p q xs (spot + 1) → Q (.int (drawF xs spot many) tk) s') :
    wpAny M A (eval (.Call (.Name "_law_draw" np) [.Name "pool" pp, e] [] pos) env) Q (fun _ _ => False) s := by
  subst hM hA hE
  exact wpAny_mono (draw_expr hc X P hpool he hm hxs hs hk hn hs1 hs2) (fun v s' ⟨g', ⟨tk, hv⟩, x, _, P'⟩ => hv ▸ hQ g' s' tk x P') fun _ _ f => f
/-- the first half: what is drawn -/
def LawHeadP (c : Cx) (body : List Stmt) (sc : Scope) : Prop := ∀ L qn f cd A h₀ g₀ s₀ (g : Fz) s a (vs : List Value) (ns : List Int),
    St (frM c 7 sc (cellsFrom (L + 1) sc.names []) L qn f cd A h₀ g₀ s₀) [("script", .adr a)] none g s → s.heap.IsCell (L + 1) none → h₀.get? (L + 1) = none → g (L + 1) = none → h₀.IsList a vs.toArray → IntsAre vs ns → ns.length ≤ 63 →
    (∀ (w : List Int) (n k : Nat) (s' : Shared) (g' : Fz), (∃ x y z : Nat, x < 4 ∧ y < 4 ∧ z < 4 ∧ w = [1, (x : Int), (y : Int), (z : Int)]) → 1 ≤ n → n ≤ 6 → 1 ≤ k → k ≤ n →
      St (frM c 7 sc (cellsFrom (L + 1) sc.names []) L qn f cd A h₀ g₀ s₀) [("k", .i k), ("n", .i n), ("w", .lst (li w))] none g' s' →
      wpAny (model c.prog c.w) A (execs (body.drop 4) (frEnv sc (cellsFrom (L + 1) sc.names []) L qn f cd)) (Post (frM c 7 sc (cellsFrom (L + 1) sc.names []) L qn f cd A h₀ g₀ s₀) (.ret (.bool true))) (fun _ _ => False) s') →
    wpAny (model c.prog c.w) A (execs body (frEnv sc (cellsFrom (L + 1) sc.names []) L qn f cd)) (Post (frM c 7 sc (cellsFrom (L + 1) sc.names []) L qn f cd A h₀ g₀ s₀) (.ret (.bool true))) (fun _ _ => False) s
theorem law_head {c : Cx} (hc : CxOk c) : LawHeadP c (bodyIn (hd.heap_39 c.w.params) 203) (scopeIn (hd.heap_39 c.w.params) 203) := by
  refine of_body (K := hd.heap_39 c.w.params) (f := 203) (LawHeadP c) rfl rfl rfl ?_
  unfold LawHeadP
  intro L qn f cd A h₀ g₀ s₀ g s a vs ns X hcell h0c gc hl hI hz cont
  dsimp only [List.drop] at X cont ⊢

  -- pool
  refine wpAny_execs_cons (ex_pool (xs := ns.take 5) (ca := L + 1) X (Evn.ev (Evn.cast (evn_comp (n := (ns.take 5).length) (out := fun i => .int ((ns.take 5).getD i 0)) (Γc := []) (raw_li (Evn.ev (evn_script (ev_name rfl rfl) ev_int hl hI hz (fun _ _ => rfl) (fun _ _ => rfl))))
    (fun i hi C h₀ g₀ s₀ => ev_int_call (ev_name rfl rfl) (n_int hc) rfl rfl) rfl (by decide) rfl (by decide) rfl around_nil (by simp; omega) (fun _ _ => rfl) (fun _ => rfl)) ?xs)) ev_int rfl rfl hcell h0c gc (Nat.succ_ne_self L) rfl rfl rfl fun g₁ s₁ p q X₁ P₁ => ?_)
  case xs =>
    congr 1
    generalize ns.take 5 = l
    apply List.ext_getElem?
    intro i
    by_cases hi : i < l.length
    · rw [li_get hi]; simp [hi]
    · rw [List.getElem?_eq_none (by simp; omega), List.getElem?_eq_none (by rw [li_len]; omega)]
  have hxs : (ns.take 5).length ≤ 5 := by simp; omega
  generalize ns.take 5 = xs at P₁ hxs
  -- w
  refine wpAny_execs_cons (wpAny_Assign_Name (wpAny_BinOp (wpAny_mono (Evn.ev (evn_list (l := [.int 1]) (evs_cons ev_int evs_nil rfl) (by simp)) s₁ g₁ X₁) (fun v₁ s₂ ⟨g₂, x₂, r₂⟩ => ?_) fun _ _ f => f)) rfl)
  have X₂ := X₁.ext x₂
  have P₂ := P₁.ext x₂
  refine wpAny_mono (evp_comp (F := frM c 7 _ _ L qn f cd A h₀ g₀ s₀) (n := 3) (out := fun i => .int (drawF xs i 4)) (Γc := [("pool", .adr p)]) X₂ P₂ (raw_range1 (n := 3) ev_int rfl (by decide) (n_range hc) rfl rfl) ?helt rfl (by decide) rfl (by decide) rfl (around_cons rfl rfl rfl rfl around_nil) (by decide) (fun _ _ => rfl) (fun _ => rfl)) (fun v₃ s₃ ⟨g₃, x₃, r₃, P₃⟩ => ?_) fun _ _ f => f
  case helt =>
    intro i hi C s₁' g₁' X' P'
    exact draw_at (many := 4) X' P' rfl rfl rfl hc rfl ev_int (by decide) hxs (by omega) (Nat.le_of_ble_eq_true rfl) rfl rfl rfl fun g' s' tk x' P'' => ⟨g', ⟨tk, by simp⟩, x', by simpa [Nat.add_assoc] using P''⟩
  obtain ⟨_, _, rfl, _⟩ := id r₂
  obtain ⟨_, _, rfl, _⟩ := id r₃
  have X₃ := X₂.extP x₃ P₂.h0 P₂.pL P₂.gp
  refine wpAny_mono (concat_at (s := s) (g := g) (F := frM c 7 _ _ L qn f cd A h₀ g₀ s₀) (r₂.mono x₃.gg) r₃ x₃.gs (by simp) X₃.top) (fun v₄ s₄ ⟨g₄, x₄, r₄⟩ => ?_) fun _ _ f => f
  have X₄ := X₃.ext x₄
  have P₄ := P₃.ext x₄
  refine X₄.stored rfl (fun _ _ _ e => by cases e) r₄ fun s₅ X₅ k₅ => ?_
  have P₅ := P₄.stored k₅
  -- n, k
  have b0 : ∀ i : Nat, ∀ m : Int, 0 < m → 0 ≤ drawF xs i m ∧ drawF xs i m < m := fun i m hm => by
    unfold drawF
    split <;> exact ⟨Int.fmod_nonneg_of_pos _ hm, Int.fmod_lt_of_pos _ hm⟩
  refine wpAny_execs_cons (ex_draw hc X₅ P₅ rfl ev_int (by decide) hxs (by decide) (Nat.le_of_ble_eq_true rfl) rfl rfl rfl rfl rfl fun g₆ s₆ X₆ P₆ => ?_)
  obtain ⟨m0, m1⟩ := b0 (0 + 3) 6 (by decide)
  refine wpAny_execs_cons (ex_draw hc X₆ P₆ rfl (ev_name rfl rfl) (by omega) hxs (by decide) (Nat.le_of_ble_eq_true rfl) rfl rfl rfl rfl rfl fun g₇ s₇ X₇ P₇ => ?_)
  obtain ⟨k0, k1⟩ := b0 (0 + 3 + 1) (1 + drawF xs (0 + 3) 6) (by omega)
  obtain ⟨x0, x1⟩ := b0 0 4 (by decide)
  obtain ⟨y0, y1⟩ := b0 1 4 (by decide)
  obtain ⟨z0, z1⟩ := b0 2 4 (by decide)
  obtain ⟨x, hx⟩ : ∃ x : Nat, drawF xs 0 4 = x := ⟨_, (Int.toNat_of_nonneg x0).symm⟩
  obtain ⟨y, hy⟩ : ∃ x : Nat, drawF xs 1 4 = x := ⟨_, (Int.toNat_of_nonneg y0).symm⟩
  obtain ⟨z, hz'⟩ : ∃ x : Nat, drawF xs 2 4 = x := ⟨_, (Int.toNat_of_nonneg z0).symm⟩
  obtain ⟨n, hn⟩ : ∃ n : Nat, 1 + drawF xs (0 + 3) 6 = n := ⟨(1 + drawF xs (0 + 3) 6).toNat, by omega⟩
  rw [hn] at X₇ k0 k1
  obtain ⟨k, hk⟩ : ∃ k : Nat, 1 + drawF xs (0 + 3 + 1) n = k := ⟨(1 + drawF xs (0 + 3 + 1) n).toNat, by omega⟩
  rw [hk] at X₇
  have ew : [S.int 1] ++ (List.range 3).map (fun i => S.int (drawF xs i 4)) = li [1, (x : Int), (y : Int), (z : Int)] := by
    rw [← hx, ← hy, ← hz']; rfl
  rw [ew] at X₇
  exact cont [1, (x : Int), (y : Int), (z : Int)] n k s₇ g₇ ⟨x, y, z, by omega, by omega, by omega, rfl⟩ (by omega) (by omega) (by omega) (by omega) (X₇.weak (Γ' := [("k", .i k), ("n", .i n), ("w", .lst (li [1, (x : Int), (y : Int), (z : Int)]))]) (sub_cons rfl (sub_cons rfl (sub_cons rfl sub_nil))))

end Mine

namespace Mine
local macro_rules | `(tactic| walk_at "SD") => `(tactic| first | assumption | (unfold Small; decide) | omega | (simp only [Small] at *; omega) | fail "SD")

theorem rep_int (n : Nat) : (List.replicate n [S.int 0]).flatten = li (List.replicate n 0) := by
  induction n with
  | zero => rfl
  | succ n ih => simp only [List.replicate_succ, List.flatten_cons, ih]; rfl
theorem rep_rat (n : Nat) : (List.replicate n [S.rat 0 1]).flatten = ri (List.replicate n 0) := by
  induction n with
  | zero => rfl
  | succ n ih => simp only [List.replicate_succ, List.flatten_cons, ih]; rfl
theorem range_ri (l : List Int) (f : Int → Int) : (List.range l.length).map (fun i => S.rat (f (l.getD i 0)) 1) = ri (l.map f) := by
  apply List.ext_getElem?
  intro i
  by_cases hi : i < l.length
  · simp [ri, hi]
  · rw [List.getElem?_eq_none (by simp; omega), List.getElem?_eq_none (by rw [ri_len]; simp; omega)]
theorem getD_rep (l : List Int) (n i : Nat) : (l ++ List.replicate n (0 : Int)).getD i 0 = l.getD i 0 := by
  simp only [List.getD]
  by_cases hi : i < l.length
  · rw [List.getElem?_append_left hi]
  · rw [List.getElem?_append_right (by omega), List.getElem?_replicate, List.getElem?_eq_none (by omega)]
    split <;> rfl
theorem ri_take (l : List Int) (k : Nat) : (ri l).take k = ri (l.take k) := by simp [ri]
theorem ri_drop (l : List Int) (k : Nat) : (ri l).drop k = ri (l.drop k) := by simp [ri]
theorem ri_set (l : List Int) (k : Nat) (v : Int) : (ri l).set k (.rat v 1) = ri (l.set k v) := by
  simp only [ri, List.map_set]
theorem tI_len (l : List Int) (k : Nat) (f : List (Int × Int)) : ∀ i, (tI l k f i).length = l.length
  | 0 => rfl
  | i + 1 => by simp [tI, tI_len l k f i]
theorem tLp_len (W : Nat → List (Int × Int)) (n : Nat) : ∀ m, (tLp W n m).length = n + 1
  | 0 => by simp [tLp]
  | m + 1 => by simp [tLp, tI_len, tLp_len W n m]
theorem tL_len (w : List Int) (n : Nat) : ∀ m, (tL w n m).length = n + 1 := fun m => tLp_len _ _ m
theorem ev_li {F : Fm} {Γ : Gam} {μ : Mu} {value slice : Expr} {pos : Pos} {l : List Int} {k : Int} (n : Nat) (hv : Ev F Γ μ value (.lst (li l))) (hs : Ev F Γ μ slice (.i k)) (hn : k = n) (h1 : n < l.length) (hz : l.length ≤ 100) (hp : PlainIx slice) :
    Ev F Γ μ (.Subscript value slice pos) (.i (l.getD n 0)) := by
  subst hn
  exact ev_item hv hs (by omega) (li_get h1) (by rw [li_len]; omega) hp
theorem pow_bits {h : Int} (h0 : 0 ≤ h) (h1 : h ≤ 100) : (Builtin.Int.intBits 2 : Int) * h ≤ 2 ^ 27 := by
  have : Builtin.Int.intBits 2 = 2 := by decide
  rw [this]
  have e : (2 : Int) ^ 27 = 134217728 := by decide
  omega
theorem pow_small {h : Nat} (h1 : h ≤ 100) : Small ((2 : Int) ^ h) := by
  unfold Small
  rw [Int.natAbs_pow]
  exact Nat.pow_lt_pow_right (by decide) (by omega)

structure LawFacts (w : List Int) (n k : Nat) : Prop where
  lw : w.length = 4
  n1 : 1 ≤ n
  n6 : n ≤ 6
  k1 : 1 ≤ k
  kn : k ≤ n
  okw : Ok w
  okg : Ok (gN w n)
  g0 : (gN w n).getD 0 0 = 1
  oki : Ok (iN w n)
  i0 : (iN w n).getD 0 0 = 1
  okt : Ok (tN w n)
  oky : Ok (yN w n)
  okr : ∀ i, i < n + 1 → Ok (rr (tN w n) (n + 1) i) ∧ ((1 : Int) + i) ∣ (rr (tN w n) (n + 1) i).getD i 0
  yu : (yN w n).drop 1 = uN w n
  oku : Ok (uN w n)
  okv : Ok (invN (uN w n) (n + 1))
  okd : Ok (ders (uN w n))
  okc : Ok (cN w n)
  lc : (cN w n).length = n
  q0 : 0 < qN w n
  okpq : Ok [pN w n, qN w n]
  c3 : ratI (n * pN w n) (1 * qN w n) = .rat (dget (ways false w n) 0 0) 1
  dt : ∀ t, t < n + 1 → OkD (ways true w t)
  df : ∀ t, t < n + 1 → OkD (ways false w t)
  hh : ∀ t, t < n + 1 → t ≠ 0 → ∀ x ∈ ways true w t, 0 ≤ x.1 ∧ x.1 ≤ 100
  okT : Ok (tL w n n)
  okW : Ok (twN w n)
  okR : Ok (reN w n)
  okA : Ok (convs (tL w n n) (reN w n))
  okB : Ok (convs (twN w n) (eN n))
  fin : convs (tL w n n) (reN w n) = convs (twN w n) (eN n)
  zp : zpOk 4 [1] w n
  okz : Ok (zpw 4 [1] w n)
  a1 : ratI (k * (zpw 4 [1] w n ++ List.replicate n 0).getD (n - k) 0) n = .rat (dget (ways true w n) k 0) 1
  wp : wpOk 4 (1 :: List.replicate (n + 1) 0) (yN w n) k
  lp : n < (wpow 4 (1 :: List.replicate (n + 1) 0) (yN w n) k).length
  a2 : (wpow 4 (1 :: List.replicate (n + 1) 0) (yN w n) k).getD n 0 = dget (ways true w n) k 0
theorem facts_of {w : List Int} {n k : Nat} (lw : w.length = 4) (n1 : 1 ≤ n) (n6 : n ≤ 6) (k1 : 1 ≤ k) (kn : k ≤ n) (hW : lawWB (ways true w) (ways false w) = true) (h : lawNB (ways true w) (ways false w) w n = true) (h' : lawKB (ways true w) w n k = true) : LawFacts w n k := by
  simp only [lawWB, Bool.and_eq_true, decide_eq_true_eq, List.all_eq_true, List.mem_range, Bool.or_eq_true] at hW
  simp only [lawNB, Bool.and_eq_true, decide_eq_true_eq, List.all_eq_true, List.mem_range, Bool.or_eq_true] at h
  simp only [lawKB, Bool.and_eq_true, decide_eq_true_eq] at h'
  obtain ⟨⟨⟨⟨⟨⟨⟨⟨⟨⟨⟨⟨⟨⟨⟨⟨⟨⟨⟨⟨⟨⟨⟨h01, h02⟩, h03⟩, h04⟩, h05⟩, h06⟩, h07⟩, h08⟩, h09⟩, h10⟩, h11⟩, h12⟩, h13⟩, h14⟩, h15⟩, h16⟩, h18⟩, h19⟩, h20⟩, h21⟩, h22⟩, h23⟩, h24⟩, h25⟩ := h
  obtain ⟨⟨⟨g1, g2⟩, g3⟩, g4⟩ := h'
  have z := zpOk_of _ _ _ _ h24
  have okw : Ok w := by
    have z' := z
    simp only [zpOk, if_neg (show ¬ n = 0 by omega)] at z'
    exact z'.2.1
  refine ⟨lw, n1, n6, k1, kn, okw, ok_of h01, h02, ok_of h03, h04, ok_of h05, ok_of h06, fun i hi => ⟨ok_of (h07 i hi).1, Int.dvd_of_emod_eq_zero (h07 i hi).2⟩, h08, ok_of h09, ok_of h10, ok_of h11, ok_of h12, h13, h14, ok_of h15, h16, fun t ht => okD_of (hW t (by omega)).1.1, fun t ht => okD_of (hW t (by omega)).1.2, fun t ht h0 x hx => ?_,
    ok_of h18, ok_of h19, ok_of h20, ok_of h21, ok_of h22, h23, z, ok_of h25, g1, wpOk_of _ _ _ _ g2, g3, g4⟩
  have := (hW t (by omega)).2
  rcases this with q | q
  · exact absurd q h0
  · simp only [hB, List.all_eq_true, Bool.and_eq_true, decide_eq_true_eq] at q
    exact q x hx
theorem wpow_len : ∀ (n : Nat) (f b : List Int) (l m : Nat), f.length ≤ m → b.length ≤ m → (wpow n f b l).length ≤ m + 80
  | 0, f, b, l, m, h1, h2 => by simp only [wpow]; omega
  | n + 1, f, b, l, m, h1, h2 => by
    simp only [wpow]
    split
    · omega
    · apply wpow_len n _ _ _ m
      · split
        · rw [convs_len]; omega
        · exact h1
      · split
        · rw [convs_len]; omega
        · exact h2
theorem okE {n : Nat} (h : n ≤ 6) : Ok (eN n) := by
  refine ⟨by simp [eN]; omega, fun x hx => ?_⟩
  simp only [eN, List.mem_cons, List.mem_replicate] at hx
  rcases hx with rfl | ⟨_, rfl⟩ <;> decide
theorem gN_len {w : List Int} {n : Nat} (lw : w.length = 4) : (gN w n).length = n + 1 := by simp [gN, lw]; omega
theorem iN_len (w : List Int) (n : Nat) : (iN w n).length = n + 1 := invN_len _ _
theorem yN_len (w : List Int) (n : Nat) : (yN w n).length = n + 2 := by simp [yN, rv_len]
theorem LawFacts.h2 {w : List Int} {n k : Nat} (f : LawFacts w n k) : (yN w n).drop 2 = (uN w n).drop 1 := rfl

def LawTailP (c : Cx) (body : List Stmt) (sc : Scope) : Prop := ∀ L qn f cd A h₀ g₀ s₀ (w : List Int) (n k : Nat), LawFacts w n k →
  Bk (frM c 7 sc (cellsFrom (L + 1) sc.names []) L qn f cd A h₀ g₀ s₀) [("k", .i k), ("n", .i n), ("w", .lst (li w))] none (body.drop 4) (.ret (.bool true))

theorem law_tail {c : Cx} (hc : CxOk c) : LawTailP c (bodyIn (hd.heap_39 c.w.params) 203) (scopeIn (hd.heap_39 c.w.params) 203) := by
  refine of_body (K := hd.heap_39 c.w.params) (f := 203) (LawTailP c) rfl rfl rfl ?_
  unfold LawTailP
  intro L qn f cd A h₀ g₀ s₀ w n k H
  dsimp only [List.drop]
  have n1 := H.n1
  have n6 := H.n6
  have k1 := H.k1
  have kn := H.kn
  have lw := H.lw
  have lz := H.okz.1
  -- raised
  refine bk_cons (sx_assign (d := .lst (li (zpw 4 [1] w n ++ List.replicate n 0))) (Ev.cast (Evn.ev (ev_add_lists (ev_call (c_zpower hc w n 4 H.okw (by omega) H.zp) (evs_cons (ev_name rfl rfl) (evs_cons (ev_name rfl rfl) evs_nil rfl) rfl) (n_zpower hc) (k_zpower hc) (Nat.le_of_ble_eq_true rfl) rfl rfl rfl rfl) (Evn.ev (ev_mul_list (l := [.int 0]) (evs_cons ev_int evs_nil rfl) (ev_name rfl rfl) (by omega) (by omega) (by simp) (by simp) (by simp; omega))) (by rw [li_len]; simp; omega))) ?c1) rfl (fun _ _ _ e => by cases e) rfl) ?_
  case c1 =>
    rw [Int.toNat_natCast, rep_int]; simp [li]
  -- above
  refine bk_cons (sx_assign (d := .dic (ways true w n)) (ev_call (c_ways hc w n true H.okw (by omega) (fun t ht => H.dt t (by omega))) (evs_cons (ev_name rfl rfl) (evs_cons (ev_name rfl rfl) (evs_cons ev_bool evs_nil rfl) rfl) rfl) (n_law_ways hc) (k_law_ways hc) (Nat.le_of_ble_eq_true rfl) rfl rfl rfl rfl) rfl (fun _ _ _ e => by cases e) rfl) ?_
  have lrs : (zpw 4 [1] w n ++ List.replicate n 0).length ≤ 26 := by simp; omega
  have lrs2 : n - k < (zpw 4 [1] w n ++ List.replicate n 0).length := by simp; omega
  have srs : ((zpw 4 [1] w n ++ List.replicate n 0).getD (n - k) 0).natAbs < 2 ^ 63 := by
    rw [getD_rep]
    exact H.okz.get (n - k)
  have a1 := H.a1
  generalize zpw 4 [1] w n ++ List.replicate n 0 = rs at lrs lrs2 srs a1 ⊢
  have sk : ((k : Int)).natAbs < 2 ^ 63 := by omega
  have sn : ((n : Int)).natAbs < 2 ^ 63 := by omega
  -- the first test
  refine bk_cons (sx_if (c := false) (o := .next [("above", .dic (ways true w n)), ("k", .i k), ("n", .i n), ("w", .lst (li w))] none) (et_cmp (ev_call (c_rat hc (k * rs.getD (n - k) 0) n (by omega) (small_of 1 (by have := prod_le sk srs; omega) (by decide)) (small63 sn)) (evs_cons (ev_mul (ev_name rfl rfl) (ev_li (n - k) (ev_name rfl rfl) (ev_sub (ev_name rfl rfl) (ev_name rfl rfl)) (by omega) lrs2 (by omega) plain_bin) (small63 sk) (small63 srs)) (evs_cons (ev_name rfl rfl) evs_nil rfl) rfl) (n_rat hc) (k_rat hc) (Nat.le_of_ble_eq_true rfl) rfl rfl rfl rfl)
    (ev_pair (evs_cons (ev_get (ev_name rfl rfl) (ev_name rfl rfl) ev_int rfl rfl rfl) (evs_cons ev_int evs_nil rfl) rfl)) c_neS rfl |>.cast (by rw [a1]; simp)) (fun h => by cases h) fun _ => bk_nil (sub_cons rfl (sub_cons rfl (sub_cons rfl (sub_cons rfl sub_nil))))) ?_
  clear a1 srs lrs2 lrs
  -- given
  refine bk_cons (sx_assign (d := .lst (ri (w ++ List.replicate n 0))) (Ev.cast (Evn.ev (ev_add_lists (Evn.ev (evn_comp (n := w.length) (out := fun i => .rat (w.getD i 0) 1) (Γc := []) (raw_li (ev_name rfl rfl)) (fun i hi C h₀ g₀ s₀ => ev_pair (evs_cons (ev_name rfl rfl) (evs_cons ev_int evs_nil rfl) rfl)) rfl (by decide) rfl (by decide) rfl around_nil (by omega) (fun _ _ => rfl) (fun _ => rfl)))
    (Evn.ev (ev_mul_list (l := [.rat 0 1]) (evs_cons (ev_pair (evs_cons ev_int (evs_cons ev_int evs_nil rfl) rfl)) evs_nil rfl) (ev_name rfl rfl) (by omega) (by omega) (by simp) (by simp) (by simp; omega))) (by simp; omega))) ?c2) rfl (fun _ _ _ e => by cases e) rfl) ?_
  case c2 =>
    have := range_ri w id
    simp only [id, List.map_id_fun] at this
    rw [Int.toNat_natCast, rep_rat, this]; simp [ri]
  -- y
  have lg := gN_len (n := n) lw
  have li' := iN_len w n
  have ly := yN_len w n
  have ci : CallD c 4 132 [.lst (ri (gN w n))] (.lst (ri (iN w n))) := by
    have := c_sinverse hc (gN w n) H.okg (by omega) H.g0 (by rw [lg]; exact H.oki)
    rw [lg] at this
    exact this
  have cr : CallD c 6 156 [.lst (ri (0 :: iN w n))] (.lst (ri (yN w n))) := by
    have := c_sreverse hc (iN w n) (by omega) H.oki (by omega) H.i0 (by rw [li']; exact H.okt) (by rw [li']; exact H.okr)
    rw [li'] at this
    exact this
  refine bk_cons (sx_assign (d := .lst (ri (yN w n))) (ev_call cr (evs_cons (Ev.cast (Evn.ev (ev_add_lists (Evn.ev (evn_list (l := [.rat 0 1]) (evs_cons (ev_pair (evs_cons ev_int (evs_cons ev_int evs_nil rfl) rfl)) evs_nil rfl) (by simp))) (ev_call ci (evs_cons (Ev.cast (Evn.ev (ev_upto (ev_name rfl rfl) (ev_add (ev_name rfl rfl) ev_int) (by omega) (by rw [ri_len]; simp; omega) (fun _ _ => rfl) (fun _ _ => rfl))) (by rw [ri_take, show ((n : Int) + 1).toNat = n + 1 by omega]; rfl)) evs_nil rfl) (n_sinverse hc) (k_sinverse hc) (Nat.le_of_ble_eq_true rfl) rfl rfl rfl rfl) (by rw [ri_len]; simp; omega))) rfl) evs_nil rfl) (n_sreverse hc) (k_sreverse hc) (Nat.le_of_ble_eq_true rfl) rfl rfl rfl rfl) rfl (fun _ _ _ e => by cases e) rfl) ?_
  refine bk_weak (Γ' := [("y", .lst (ri (yN w n))), ("above", .dic (ways true w n)), ("k", .i k), ("n", .i n), ("w", .lst (li w))]) (sub_cons rfl (sub_cons rfl (sub_cons rfl (sub_cons rfl (sub_cons rfl sub_nil))))) ?_
  have oky := H.oky
  have hl2 : (yN w n).length ≤ 20 := by omega
  -- the second test
  have cw : CallD c 6 170 [.lst (ri (yN w n)), .i k] (.lst (ri (wpow 4 (1 :: List.replicate (n + 1) 0) (yN w n) k))) := by
    have := c_swhole hc (yN w n) k 4 (by omega) hl2 (by omega) (by rw [ly]; exact H.wp)
    rw [ly] at this
    exact this
  have lp := H.lp
  have a2 := H.a2
  have lp2 : (wpow 4 (1 :: List.replicate (n + 1) 0) (yN w n) k).length ≤ 100 := wpow_len 4 _ _ k 20 (by simp; omega) (by omega)
  refine bk_cons (sx_if (c := false) (o := .next [("y", .lst (ri (yN w n))), ("n", .i n), ("w", .lst (li w))] none) (et_cmp (ev_ri n (ev_call cw (evs_cons (ev_name rfl rfl) (evs_cons (ev_name rfl rfl) evs_nil rfl) rfl) (n_swhole_power hc) (k_swhole_power hc) (Nat.le_of_ble_eq_true rfl) rfl rfl rfl rfl) (ev_name rfl rfl) rfl lp lp2 plain_name)
    (ev_pair (evs_cons (ev_get (ev_name rfl rfl) (ev_name rfl rfl) ev_int rfl rfl rfl) (evs_cons ev_int evs_nil rfl) rfl)) c_neS rfl |>.cast (by rw [a2]; simp)) (fun h => by cases h) fun _ => bk_nil (sub_cons rfl (sub_cons rfl (sub_cons rfl sub_nil)))) ?_
  clear lp lp2 a2 cw
  -- the third test
  have yd : (yN w n).drop 1 = uN w n := H.yu
  have lu : ((yN w n).drop 2).length = n := by simp; omega
  have cl : CallD c 6 163 [.lst (ri (uN w n))] (.lst (intg (cN w n))) := by
    have := c_slog hc ((yN w n).drop 2) H.oku (by rw [lu]; exact H.okv) H.okd (by rw [lu]; exact H.okc)
    rw [lu] at this
    exact this
  have lc := H.lc
  have li2 : (intg (cN w n)).length = n + 1 := by simp [intg, lc]
  have it : (intg (cN w n))[((n : Int)).toNat]? = some (.rat (pN w n) (qN w n)) := by
    obtain ⟨m, rfl⟩ : ∃ m, n = m + 1 := ⟨n - 1, by omega⟩
    rw [Int.toNat_natCast]
    simp only [intg, List.getElem?_cons_succ, List.getElem?_map]
    rw [List.getElem?_range (by omega)]
    rfl
  have sp : (pN w n).natAbs < 2 ^ 63 := H.okpq.2 _ (by simp)
  have sq : (qN w n).natAbs < 2 ^ 63 := H.okpq.2 _ (by simp)
  have cm : CallD c 3 78 [.r n 1, .r (pN w n) (qN w n)] (.r (dget (ways false w n) 0 0) 1) := by
    have := c_rmul hc n 1 (pN w n) (qN w n) (by have := H.q0; omega) (small63 sn) (small63 sp) (by unfold Small; decide) (small63 sq) (small_of 1 (by have := prod_le sn sp; omega) (by decide)) (by rw [Int.one_mul]; exact small63 sq)
    rw [H.c3] at this
    exact this
  refine bk_cons (sx_if (c := false) (o := .next [("y", .lst (ri (yN w n))), ("n", .i n), ("w", .lst (li w))] none) (et_cmp (ev_call cm (evs_cons (ev_pair (evs_cons (ev_name rfl rfl) (evs_cons ev_int evs_nil rfl) rfl)) (evs_cons (ev_item (ev_call cl (evs_cons (Ev.cast (Evn.ev (ev_from (ev_name rfl rfl) ev_int (by decide) (by rw [ri_len]; omega) (fun _ _ => rfl) (fun _ _ => rfl))) (by rw [ri_drop, ← yd]; rfl)) evs_nil rfl) (n_slog hc) (k_slog hc) (Nat.le_of_ble_eq_true rfl) rfl rfl rfl rfl) (ev_name rfl rfl) (by omega) it (by omega) plain_name) evs_nil rfl) rfl) (n_rmul hc) (k_rmul hc) (Nat.le_of_ble_eq_true rfl) rfl rfl rfl rfl)
    (ev_pair (evs_cons (ev_get (ev_call (c_ways hc w n false H.okw (by omega) (fun t ht => H.df t (by omega))) (evs_cons (ev_name rfl rfl) (evs_cons (ev_name rfl rfl) (evs_cons ev_bool evs_nil rfl) rfl) rfl) (n_law_ways hc) (k_law_ways hc) (Nat.le_of_ble_eq_true rfl) rfl rfl rfl rfl) ev_int ev_int rfl rfl rfl) (evs_cons ev_int evs_nil rfl) rfl)) c_neS rfl |>.cast (by simp)) (fun h => by cases h) fun _ => bk_nil (sub_cons rfl (sub_cons rfl (sub_cons rfl sub_nil)))) ?_
  clear it cm cl sp sq
  -- total
  have x0 : D.lst ((List.replicate ((n : Int) + 1).toNat [S.rat 0 1]).flatten) = D.lst (ri (tL w n 0)) := by
    rw [rep_rat, show ((n : Int) + 1).toNat = n + 1 by omega]; rfl
  refine bk_new (d := .lst (ri (tL w n 0))) (Evn.cast (ev_mul_list (l := [.rat 0 1]) (evs_cons (ev_pair (evs_cons ev_int (evs_cons ev_int evs_nil rfl) rfl)) evs_nil rfl) (ev_add (ev_name rfl rfl) ev_int) (by omega) (by omega) (by simp) (by simp) (by simp; omega)) x0) rfl .refl rfl rfl fun a₀ => ?_
  have lt := tL_len w n
  refine bk_cons (sx_for (n := n) (Γs := fun m => [("y", .lst (ri (yN w n))), ("n", .i n), ("w", .lst (li w))]) (μs := fun m => some ("total", a₀, .lst (ri (tL w n m)))) (src_name (raw_range2 (n := n) ev_int (ev_add (ev_name rfl rfl) ev_int) (by decide) (by omega) (by omega) (n_range hc) rfl rfl) rfl (fun _ _ => rfl))
    (sub_cons rfl (sub_cons rfl (sub_cons rfl sub_nil))) (fun i y a d e => by cases e; decide) ?outer (fun _ => rfl)) ?rest
  case outer =>
    intro m hm h₀ g₀ s₀
    have dt := H.dt (1 + m) (by omega)
    have hh := H.hh (1 + m) (by omega) (by omega)
    have lm := lt m
    refine bk_cons (sx_for (n := (ways true w (1 + m)).length) (Γs := fun i => [("many", .i ((1 + m : Nat) : Int)), ("y", .lst (ri (yN w n))), ("n", .i n), ("w", .lst (li w))]) (μs := fun i => some ("total", a₀, .lst (ri (tI (tL w n m) (1 + m) (ways true w (1 + m)) i)))) (src_items (ev_call (c_ways hc w (1 + m) true H.okw (by omega) (fun t ht => H.dt t (by omega))) (evs_cons (ev_name rfl rfl) (evs_cons (Ev.cast (d := .i ((1 : Int) + m)) (ev_name rfl rfl) (by push_cast; rfl)) (evs_cons ev_bool evs_nil rfl) rfl) rfl) (n_law_ways hc) (k_law_ways hc) (Nat.le_of_ble_eq_true rfl) rfl rfl rfl rfl) rfl rfl rfl rfl)
      (sub_cons (by push_cast; rfl) (sub_cons rfl (sub_cons rfl (sub_cons rfl sub_nil)))) (fun i y a d e => by cases e; decide) ?inner (fun _ => rfl)) (bk_nil (sub_cons rfl (sub_cons rfl (sub_cons rfl sub_nil))))
    intro i hi h₀ g₀ s₀
    have o2 := dt.get i
    have ex : (ways true w (1 + m)).getD i (0, 0) ∈ ways true w (1 + m) := by
      rw [show (ways true w (1 + m)).getD i (0, 0) = (ways true w (1 + m))[i] by simp [List.getD, List.getElem?_eq_getElem hi]]
      exact List.getElem_mem hi
    obtain ⟨q0, q1⟩ := hh _ ex
    have tl := tI_len (tL w n m) (1 + m) (ways true w (1 + m)) i
    have et : tI (tL w n m) (1 + m) (ways true w (1 + m)) (i + 1) = (tI (tL w n m) (1 + m) (ways true w (1 + m)) i).set (1 + m) ((tI (tL w n m) (1 + m) (ways true w (1 + m)) i).getD (1 + m) 0 + ((ways true w (1 + m)).getD i (0, 0)).2 * 2 ^ ((ways true w (1 + m)).getD i (0, 0)).1.toNat) := rfl
    rw [et]
    generalize tI (tL w n m) (1 + m) (ways true w (1 + m)) i = T at tl ⊢
    generalize (ways true w (1 + m)).getD i (0, 0) = hw at o2 q0 q1 ⊢
    refine bk_cons (sx_set (k := ((1 + m : Nat) : Int)) (y := .rat (T.getD (1 + m) 0 + hw.2 * 2 ^ hw.1.toNat) 1) (ev_pair (evs_cons (ev_add (ev_part (ev_ri_mu (1 + m) (ev_name rfl rfl) rfl (by omega) (by omega) plain_name (by decide)) ev_int (.inl ⟨rfl, rfl⟩) plain_int) (ev_mul (ev_name rfl rfl) (ev_pow ev_int (ev_name rfl rfl) q0 (pow_bits q0 q1)) (small63 o2) (pow_small (by omega)))) (evs_cons ev_int evs_nil rfl) rfl)) (ev_name rfl rfl) (by omega) (by rw [ri_len]; omega) (by rw [ri_len]; omega) (by decide) rfl) ?_
    rw [Int.toNat_natCast, ri_set]
    exact bk_nil (sub_cons rfl (sub_cons rfl (sub_cons rfl (sub_cons rfl sub_nil))))
  case rest =>
    refine bk_freeze ?_
    -- twice
    have ltk : ((yN w n).take (n + 1)).length = n + 1 := by simp; omega
    have okk : Ok ((yN w n).take (n + 1)) := ⟨by omega, fun x hx => oky.2 x (List.mem_of_mem_take hx)⟩
    refine bk_cons (sx_comp (n := ((yN w n).take (n + 1)).length) (out := fun i => .rat (2 * ((yN w n).take (n + 1)).getD i 0) 1) (Γc := []) (raw_ri (Ev.cast (Evn.ev (ev_upto (ev_name rfl rfl) (ev_add (ev_name rfl rfl) ev_int) (by omega) (by rw [ri_len]; omega) (fun _ _ => rfl) (fun _ _ => rfl))) (by rw [ri_take, show ((n : Int) + 1).toNat = n + 1 by omega])))
      (fun i hi C h₀ g₀ s₀ => ev_pair (evs_cons (ev_mul ev_int (ev_part (ev_name rfl rfl) ev_int (.inl ⟨rfl, rfl⟩) plain_int) (by unfold Small; decide) (small63 (okk.get i))) (evs_cons (ev_part (ev_name rfl rfl) ev_int (.inr ⟨rfl, rfl⟩) plain_int) evs_nil rfl) rfl)) rfl (by decide) rfl (by decide) rfl around_nil (by omega) rfl (fun _ _ _ e => by cases e) rfl (fun _ _ => rfl) (fun _ => rfl)) ?_
    rw [range_ri ((yN w n).take (n + 1)) (2 * ·)]
    show Bk _ (("twice", .lst (ri (twN w n))) :: _) _ _ _
    have okW := H.okW
    have ltw : (twN w n).length = n + 1 := by simp [twN]; omega
    -- rest
    refine bk_cons (sx_assign (d := .lst (ri (reN w n))) (Ev.cast (Evn.ev (ev_add_lists (Evn.ev (evn_list (l := [.rat 1 1]) (evs_cons (ev_pair (evs_cons ev_int (evs_cons ev_int evs_nil rfl) rfl)) evs_nil rfl) (by simp))) (Evn.ev (evn_comp (n := ((twN w n).drop 1).length) (out := fun i => .rat (0 - ((twN w n).drop 1).getD i 0) 1) (Γc := []) (raw_ri (Ev.cast (Evn.ev (ev_from (ev_name rfl rfl) ev_int (by decide) (by rw [ri_len]; omega) (fun _ _ => rfl) (fun _ _ => rfl))) (by rw [ri_drop]; rfl)))
      (fun i hi C h₀ g₀ s₀ => ev_pair (evs_cons (ev_sub ev_int (ev_part (ev_name rfl rfl) ev_int (.inl ⟨rfl, rfl⟩) plain_int)) (evs_cons (ev_part (ev_name rfl rfl) ev_int (.inr ⟨rfl, rfl⟩) plain_int) evs_nil rfl) rfl)) rfl (by decide) rfl (by decide) rfl around_nil (by simp; omega) (fun _ _ => rfl) (fun _ => rfl))) (by simp; omega))) (by rw [range_ri ((twN w n).drop 1) (0 - ·)]; rfl)) rfl (fun _ _ _ e => by cases e) rfl) ?_
    have lre := H.okR.1
    refine bk_ret (sx_ret (Ev.cast (ev_cmp (ev_call (c_smul hc (tL w n n) (reN w n) H.okT H.okR H.okA) (evs_cons (ev_name rfl rfl) (evs_cons (ev_name rfl rfl) evs_nil rfl) rfl) (n_smul hc) (k_smul hc) (Nat.le_of_ble_eq_true rfl) rfl rfl rfl rfl) (ev_call (c_smul hc (twN w n) (eN n) H.okW (okE n6) H.okB) (evs_cons (ev_name rfl rfl) (evs_cons (Ev.cast (Evn.ev (ev_add_lists (Evn.ev (evn_list (l := [.rat 1 1]) (evs_cons (ev_pair (evs_cons ev_int (evs_cons ev_int evs_nil rfl) rfl)) evs_nil rfl) (by simp))) (Evn.ev (ev_mul_list (l := [.rat 0 1]) (evs_cons (ev_pair (evs_cons ev_int (evs_cons ev_int evs_nil rfl) rfl)) evs_nil rfl) (ev_name rfl rfl) (by omega) (by omega) (by simp) (by simp) (by simp; omega))) (by simp; omega))) (by rw [Int.toNat_natCast, rep_rat]; rfl)) evs_nil rfl) rfl) (n_smul hc) (k_smul hc) (Nat.le_of_ble_eq_true rfl) rfl rfl rfl rfl) c_eqL rfl) (by rw [H.fin]; simp)))

end Mine

namespace Mine
theorem facts_all {x y z n k : Nat} (hx : x < 4) (hy : y < 4) (hz : z < 4) (n1 : 1 ≤ n) (n6 : n ≤ 6) (k1 : 1 ≤ k) (kn : k ≤ n) : LawFacts [1, (x : Int), (y : Int), (z : Int)] n k := by
  have h := law_all x y z hx hy hz
  simp only [lawAll, ← ways_fun, List.all_eq_true, List.mem_range, Bool.and_eq_true] at h
  obtain ⟨hW, h⟩ := h
  obtain ⟨m, rfl⟩ : ∃ m, n = m + 1 := ⟨n - 1, by omega⟩
  obtain ⟨j, rfl⟩ : ∃ j, k = j + 1 := ⟨k - 1, by omega⟩
  obtain ⟨h1, h2⟩ := h m (by omega)
  exact facts_of rfl n1 n6 k1 kn hW h1 (h2 j (by omega))
def LawRunP (c : Cx) (body : List Stmt) (sc : Scope) : Prop := ∀ L qn f cd A h₀ g₀ s₀ (g : Fz) s a (vs : List Value) (ns : List Int),
    St (frM c 7 sc (cellsFrom (L + 1) sc.names []) L qn f cd A h₀ g₀ s₀) [("script", .adr a)] none g s → s.heap.IsCell (L + 1) none → h₀.get? (L + 1) = none → g (L + 1) = none → h₀.IsList a vs.toArray → IntsAre vs ns → ns.length ≤ 63 →
    wpAny (model c.prog c.w) A (execs body (frEnv sc (cellsFrom (L + 1) sc.names []) L qn f cd)) (Post (frM c 7 sc (cellsFrom (L + 1) sc.names []) L qn f cd A h₀ g₀ s₀) (.ret (.bool true))) (fun _ _ => False) s
theorem law_run {c : Cx} (hc : CxOk c) : LawRunP c (bodyIn (hd.heap_39 c.w.params) 203) (scopeIn (hd.heap_39 c.w.params) 203) := by
  intro L qn f cd A h₀ g₀ s₀ g s a vs ns X h1 h2 h3 h4 h5 h6
  refine law_head hc L qn f cd A h₀ g₀ s₀ g s a vs ns X h1 h2 h3 h4 h5 h6 fun w n k s' g' hw n1 n6 k1 kn X' => ?_
  obtain ⟨x, y, z, hx, hy, hz, rfl⟩ := hw
  exact law_tail hc L qn f cd A h₀ g₀ s₀ _ n k (facts_all hx hy hz n1 n6 k1 kn) s' g' X'
theorem run_lit {c : Cx} (hc : CxOk c) {oc : Value} {od : Option Addr} {fd : FuncData} {osl : Array (Option Value)} {body : List Stmt} {sc : Scope} (ho : (hd.heap_39 c.w.params).lookup 203 = some ⟨oc, od, .func fd, osl⟩) (hb : fd.body = .stmts body) (hs : fd.scope = sc) : LawRunP c body sc := by
  have := law_run hc
  unfold bodyIn scopeIn at this
  rw [ho] at this
  simp only [hb, hs] at this
  exact this

theorem law_goes {w : World} {mg mb : Str → Option Value} {s₁ : Shared} {h₁ : Heap} {tk : Nat} {L : Addr} {m : Str → Option Value} {a : Addr} {vs : List Value} {ns : List Int} {wo : Obj} {A : Around} {body : List Stmt} {sc : Scope} {qn : Str} {f : Addr} {cd : Value}
    (hrun : LawRunP ⟨PySem.Challenge.rw_xm0125_01.row.prog, w, hd.heap_39 w.params, mg, mb⟩ body sc)
    (K9 : (hd.heap_39 w.params).In s₁.heap) (Tg : s₁.heap.Ns mainGlobals mg) (Tb : s₁.heap.Ns builtinsNs mb) (Tn : s₁.heap.NoLimit) (Tbi : ∀ x : Str, x ≠ "__name__" → mb x = bootBuiltins x)
    (F9 : Fr s₁.heap L h₁ m) (hL : s₁.heap.objs.size = L) (hm : m "script" = some (.ref a)) (hcell : h₁.get? (L + 1) = some wo) (hwd : wo.data = .cell none) (hfr : s₁.heap.get? (L + 1) = none)
    (L9 : s₁.heap.IsList a vs.toArray) (I9 : IntsAre vs ns) (C9 : ns.length ≤ 63) (hR : Room A 7) (hkind : sc.kind = .function) (hk : sc.names.lookup ("script" : Str) = some .local) :
    wpAny (model PySem.Challenge.rw_xm0125_01.row.prog w) A (execs body (frEnv sc (cellsFrom (L + 1) sc.names []) L qn f cd))
      (fun fl s' => fl = .ret (.bool true) ∧ (∀ b o, s₁.heap.get? b = some o → s'.heap.get? b = some o) ∧ s'.os = s₁.os ∧ s'.gens = s₁.gens) (fun _ _ => False) { s₁ with heap := h₁, toks := tk } := by
  have hfL : s₁.heap.get? L = none := by
    cases q : s₁.heap.get? L with
    | none => rfl
    | some o => exact absurd (Heap.lt_size q) (by rw [hL]; exact Nat.lt_irrefl _)
  let g : Fz := fun b => if b = 49 ∨ b = 50 then s₁.heap.get? b else none
  have gS : ∀ b o, g b = some o → s₁.heap.get? b = some o := fun b o e => by
    have e : (if b = 49 ∨ b = 50 then s₁.heap.get? b else none) = some o := e
    split at e
    · exact e
    · cases e
  have gN : ∀ b, s₁.heap.get? b = none → g b = none := fun b hb => by
    cases q : g b with
    | none => rfl
    | some o => rw [gS b o q] at hb; cases hb
  have X : St (frM ⟨PySem.Challenge.rw_xm0125_01.row.prog, w, hd.heap_39 w.params, mg, mb⟩ 7 sc (cellsFrom (L + 1) sc.names []) L qn f cd A s₁.heap g s₁) [("script", .adr a)] none g { s₁ with heap := h₁, toks := tk } := by
    refine ⟨⟨F9.keep, fun _ _ e => e, fun b o e => F9.keep _ _ (gS b o e), fun _ _ e => .inl e, rfl, rfl, rfl⟩, ⟨hkind, rfl, rfl, hfL, ⟨K9, Tg, Tb, Tn, Tbi⟩, hR, fun b o hb e => ?_⟩, m, F9.ns, gN _ hfL, fun x d hx => .inl ?_, fun _ _ _ e => by cases e⟩
    · show (if b = 49 ∨ b = 50 then s₁.heap.get? b else none) = some o
      rw [if_pos hb]
      exact K9 b o e
    · rw [List.lookup_cons] at hx
      split at hx
      · rename_i q
        have q : x = "script" := by simpa using q
        subst q
        cases hx
        exact ⟨hk, _, hm, rfl⟩
      · cases hx
  refine wpAny_mono (hrun L qn f cd A s₁.heap g s₁ g _ a vs ns X ⟨wo, hcell, hwd⟩ hfr (gN _ hfr) L9 I9 C9) (fun fl s' hP => ?_) fun _ _ f => f
  obtain ⟨v, g', rfl, B, r⟩ := hP
  have r : v = .bool true := r
  subst r
  exact ⟨rfl, B.keep, B.sh.2.2, B.sh.1⟩
theorem room0 (env : Env) : Room (callerA.deeper env) 7 := ⟨by show 1 + claimMargin + 1 + 7 < recursionLimit; decide, by show 4 + 3 + 16 * 7 + 64 < cLine; decide, rfl⟩
end Mine
theorem PySem.Challenge.cw_xm0125_01_holds : PySem.Challenge.rw_xm0125_01.Holds := by
  refine Mine.hd ?_
  k_go0
  with_reducible rename Fr _ _ _ _ => F9
  with_reducible rename News _ _ _ _ => N9
  with_reducible rename Top _ _ _ _ _ _ => T9
  with_reducible rename Frag.In _ _ => K9
  with_reducible rename Heap.IsList _ _ _ => L9
  with_reducible rename IntsAre _ _ => I9
  with_reducible rename Obj.data _ = _ => D9
  with_reducible rename Shared.gens _ = _ => G9
  with_reducible rename ¬ _ => C9
  refine wpAny_mono (Mine.law_goes (Mine.run_lit ⟨rfl⟩ rfl rfl rfl) K9 T9.g T9.b T9.nolimit T9.builtins F9 rfl rfl (N9 _ (List.mem_singleton_self _)).1 D9 (N9 _ (List.mem_singleton_self _)).2.2 L9 I9 (by omega) (Mine.room0 _) rfl rfl) (fun fl s' hP => ?_) fun _ _ f => f.elim
  obtain ⟨rfl, hk, hos, hgn⟩ := hP
  exact ⟨.inl ⟨.bool true, .bool true, [], rfl, fun _ => rfl, .bool true, postW_of (X := (true == true)) rfl (w_eq_bool (w_res rfl) w_lit) rfl, fun _ => ⟨List.nodup_nil, fun _ h => nomatch h⟩⟩, hk, hos, hgn.trans G9⟩
