import PyProof.Rows.All
import Wide.All
import OpenK.AllK
import Wide.FinOn
import Lean
import PySem.Challenge.RW_pq0741_01
open PySem PySem.W PyProof.Rows PySem.Spec
set_option Elab.async false
set_option linter.unusedVariables false
set_option maxRecDepth 100000

namespace Mine

/-! # values as data -/

mutual
inductive Rd (H : Addr → Prop) (h : Heap) : Value → PyData → Prop
  | none : Rd H h .none .none
  | bool (b) : Rd H h (.bool b) (.bool b)
  | int (i t) : Rd H h (.int i t) (.int i)
  | str (x t) : Rd H h (.str x t) (.str x)
  | list {a o vs n xs} : ¬ H a → h.get? a = some o → o.cls = .type "list" → o.data = .seq vs n → RdAll H h vs.toList xs → Rd H h (.ref a) (.list xs)
  | tuple {a o vs n xs} : ¬ H a → h.get? a = some o → o.cls = .type "tuple" → o.data = .seq vs n → RdAll H h vs.toList xs → Rd H h (.ref a) (.tuple xs)
inductive RdAll (H : Addr → Prop) (h : Heap) : List Value → List PyData → Prop
  | nil : RdAll H h [] []
  | cons {v vs d ds} : Rd H h v d → RdAll H h vs ds → RdAll H h (v :: vs) (d :: ds)
end

mutual
theorem Rd.imp {H H' : Addr → Prop} {h h' : Heap} (k : ∀ a o, ¬ H a → h.get? a = some o → ¬ H' a ∧ h'.get? a = some o) : ∀ {v : Value} {d : PyData}, Rd H h v d → Rd H' h' v d
  | _, _, .none => .none
  | _, _, .bool b => .bool b
  | _, _, .int i t => .int i t
  | _, _, .str x t => .str x t
  | _, _, .list ha ho hc hd r => .list (k _ _ ha ho).1 (k _ _ ha ho).2 hc hd (RdAll.imp k r)
  | _, _, .tuple ha ho hc hd r => .tuple (k _ _ ha ho).1 (k _ _ ha ho).2 hc hd (RdAll.imp k r)
theorem RdAll.imp {H H' : Addr → Prop} {h h' : Heap} (k : ∀ a o, ¬ H a → h.get? a = some o → ¬ H' a ∧ h'.get? a = some o) : ∀ {vs : List Value} {ds : List PyData}, RdAll H h vs ds → RdAll H' h' vs ds
  | _, _, .nil => .nil
  | _, _, .cons h r => .cons (Rd.imp k h) (RdAll.imp k r)
end

mutual
theorem Rd.reads {H : Addr → Prop} {h : Heap} : ∀ {v : Value} {d : PyData}, Rd H h v d → ∃ as, Reads h v d as
  | _, _, .none => ⟨_, .none⟩
  | _, _, .bool b => ⟨_, .bool b⟩
  | _, _, .int i t => ⟨_, .int i t⟩
  | _, _, .str x t => ⟨_, .str x t⟩
  | _, _, .list _ ho hc hd r => let ⟨_, q⟩ := RdAll.reads r; ⟨_, .list ho hc hd q⟩
  | _, _, .tuple _ ho hc hd r => let ⟨_, q⟩ := RdAll.reads r; ⟨_, .tuple ho hc hd q⟩
theorem RdAll.reads {H : Addr → Prop} {h : Heap} : ∀ {vs : List Value} {ds : List PyData}, RdAll H h vs ds → ∃ as, ReadsAll h vs ds as
  | _, _, .nil => ⟨_, .nil⟩
  | _, _, .cons h r => let ⟨_, p⟩ := Rd.reads h; let ⟨_, q⟩ := RdAll.reads r; ⟨_, .cons p q⟩
end

def Kp (h h' : Heap) : Prop := ∀ a o, h.get? a = some o → h'.get? a = some o
theorem Kp.refl (h : Heap) : Kp h h := fun _ _ e => e
theorem Kp.trans {a b c : Heap} (x : Kp a b) (y : Kp b c) : Kp a c := fun _ _ e => y _ _ (x _ _ e)
theorem Kp.push (h : Heap) (o : Obj) : Kp h (h.push o) := fun _ _ e => Heap.get?_push_of_some _ e

section
variable {H : Addr → Prop} {h h' : Heap} {v : Value} {vs ws : List Value} {d : PyData} {ds es : List PyData}
theorem Rd.keep (k : Kp h h') (r : Rd H h v d) : Rd H h' v d := r.imp fun _ _ ha e => ⟨ha, k _ _ e⟩
theorem RdAll.keep (k : Kp h h') (r : RdAll H h vs ds) : RdAll H h' vs ds := r.imp fun _ _ ha e => ⟨ha, k _ _ e⟩
theorem RdAll.length (r : RdAll H h vs ds) : vs.length = ds.length := by
  induction vs generalizing ds with
  | nil => cases r; rfl
  | cons v vs ih => cases r with | cons _ r => simp [ih r]
theorem RdAll.append (r : RdAll H h vs ds) (q : RdAll H h ws es) : RdAll H h (vs ++ ws) (ds ++ es) := by
  induction vs generalizing ds with
  | nil => cases r; exact q
  | cons v vs ih => cases r with | cons p r => exact .cons p (ih r)
theorem RdAll.get (r : RdAll H h vs ds) {i : Nat} {d : PyData} (hi : ds[i]? = some d) : ∃ v, vs[i]? = some v ∧ Rd H h v d := by
  induction vs generalizing ds i with
  | nil => cases r; cases hi
  | cons v vs ih =>
    cases r with
    | cons p r =>
      cases i with
      | zero => cases hi; exact ⟨v, rfl, p⟩
      | succ i => exact ih r (by simpa using hi)
theorem RdAll.drop (r : RdAll H h vs ds) (i : Nat) : RdAll H h (vs.drop i) (ds.drop i) := by
  induction i generalizing vs ds with
  | zero => simpa using r
  | succ i ih =>
    cases r with
    | nil => simpa using RdAll.nil
    | cons p r => simpa using ih r
theorem RdAll.take (r : RdAll H h vs ds) (i : Nat) : RdAll H h (vs.take i) (ds.take i) := by
  induction i generalizing vs ds with
  | zero => simpa using RdAll.nil
  | succ i ih =>
    cases r with
    | nil => simpa using RdAll.nil
    | cons p r => simpa using RdAll.cons p (ih r)

theorem Rd.isList (r : Rd H h v (.list ds)) : ∃ a vs, v = .ref a ∧ ¬ H a ∧ h.IsList a vs.toArray ∧ RdAll H h vs ds := by
  cases r with
  | list ha ho hc hd q => exact ⟨_, _, rfl, ha, ⟨_, ho, hc, _, by rw [hd]⟩, q⟩
theorem Rd.ofList {a : Addr} (ha : ¬ H a) (hl : h.IsList a vs.toArray) (q : RdAll H h vs ds) : Rd H h (.ref a) (.list ds) := by
  obtain ⟨o, ho, hc, n, hd⟩ := hl
  exact .list ha ho hc hd (by simpa using q)
theorem Rd.isInt {i : Int} (r : Rd H h v (.int i)) : ∃ t, v = .int i t := by cases r; exact ⟨_, rfl⟩
theorem Rd.isBool {i : Bool} (r : Rd H h v (.bool i)) : v = .bool i := by cases r; rfl
theorem Rd.isStr {x : Str} (r : Rd H h v (.str x)) : ∃ t, v = .str x t := by cases r; exact ⟨_, rfl⟩
end

/-! # the ground: what the program's top has laid -/

def defAt (i : Nat) : DefRec := match PySem.Challenge.pw_pq0741_01.main.body[i]? with
  | some (.FunctionDef name args body _ _ _ scope _ _ pos) => ⟨name, args, body, scope, pos⟩
  | _ => ⟨"", { posonlyargs := [], args := [], vararg := none, kwonlyargs := [], kw_defaults := [], kwarg := none, defaults := [] }, [], { kind := .function, names := [], isGenerator := false, isCoroutine := false, more := [] }, ⟨0, 0, 0, 0⟩⟩

structure Ground (h₀ : Heap) (mg mb : Str → Option Value) : Prop where
  g : h₀.Ns mainGlobals mg
  b : h₀.Ns builtinsNs mb
  nolimit : h₀.NoLimit
  fn : ∀ i, 2 < i → i < 31 → i ≠ 20 → ∃ a o pm code doc, mg (defAt i).name = some (.ref a) ∧ h₀.get? a = some o ∧
    o.data = .func (Calls.docDef (defAt i).name (defAt i).params (defAt i).body (defAt i).scope pm code doc) ∧ h₀.CodeRec code (defAt i).name
  least : ∃ t, mg "LEAST" = some (.int (-2147483648) t)
  greatest : ∃ t, mg "GREATEST" = some (.int 2147483647 t)
  free : ∀ x : Str, x ∈ (["min", "max", "abs", "int", "sum", "len", "list", "range"] : List Str) → mg x = none
  builtins : ∀ x : Str, x ∈ (["min", "max", "abs", "int", "sum", "len", "list", "range"] : List Str) → mb x = bootBuiltins x

structure Rm (n : Nat) (A : Around) : Prop where
  hh : A.handled = none
  dp : A.depth + n + 1 < recursionLimit
  un : A.units + 4 * n + 200 < cLine

theorem Rm.mono {n m : Nat} {A : Around} (x : Rm m A) (h : n ≤ m) : Rm n A := ⟨x.hh, by have := x.dp; omega, by have := x.un; omega⟩
theorem Rm.deeper {n : Nat} {A : Around} (x : Rm (n + 1) A) (env : Env) : Rm n (A.deeper env) :=
  ⟨x.hh, by have := x.dp; simp only [Around.deeper]; omega, by have := x.un; simp only [Around.deeper]; omega⟩

abbrev Rho := List (Str × PyData)

def VarIs (H : Addr → Prop) (h : Heap) (env : Env) (m : Str → Option Value) (x : Str) (d : PyData) : Prop :=
  (env.kindOf x = some .local ∧ ∃ v, m x = some v ∧ Rd H h v d) ∨
  (env.kindOf x = some .cell ∧ ∃ c v, env.cells.lookup x = some c ∧ h.IsCell c (some v) ∧ Rd H h v d)

def Loc (H : Addr → Prop) (h : Heap) (env : Env) (ρ : Rho) : Prop :=
  ∃ m, h.Ns env.locals m ∧ ∀ x d, ρ.lookup x = some d → VarIs H h env m x d

theorem VarIs.keep {H : Addr → Prop} {h h' : Heap} {env : Env} {m : Str → Option Value} {x : Str} {d : PyData} (k : Kp h h') : VarIs H h env m x d → VarIs H h' env m x d
  | .inl ⟨a, v, b, c⟩ => .inl ⟨a, v, b, c.keep k⟩
  | .inr ⟨a, c, v, b, e, r⟩ => .inr ⟨a, c, v, b, e.keeps k, r.keep k⟩
theorem Loc.keep {H : Addr → Prop} {h h' : Heap} {env : Env} {ρ : Rho} (k : Kp h h') : Loc H h env ρ → Loc H h' env ρ
  | ⟨m, hn, hv⟩ => ⟨m, hn.keeps k, fun x d e => (hv x d e).keep k⟩

structure SC (h₀ : Heap) (H : Addr → Prop) (env : Env) (ρ : Rho) (h : Heap) : Prop where
  base : Kp h₀ h
  live : ∀ a, H a → ∃ o, h.get? a = some o
  loc : Loc H h env ρ

theorem SC.keep {h₀ : Heap} {H : Addr → Prop} {env : Env} {ρ : Rho} {h h' : Heap} (x : SC h₀ H env ρ h) (k : Kp h h') : SC h₀ H env ρ h' :=
  ⟨x.base.trans k, fun a ha => let ⟨o, e⟩ := x.live a ha; ⟨o, k _ _ e⟩, x.loc.keep k⟩
theorem SC.new {h₀ : Heap} {H : Addr → Prop} {env : Env} {ρ : Rho} {h : Heap} (x : SC h₀ H env ρ h) {a : Addr} (e : h.get? a = none) : ¬ H a := fun ha => by
  obtain ⟨o, e'⟩ := x.live a ha
  rw [e] at e'; cases e'

theorem get?_size (h : Heap) : h.get? h.objs.size = none := by
  cases e : h.get? h.objs.size with
  | none => rfl
  | some o => exact absurd (Heap.lt_size e) (Nat.lt_irrefl _)

structure EnvG (sc : Scope) (env : Env) : Prop where
  scope : env.scope = sc
  globals : env.globals = mainGlobals
  builtins : env.builtins = builtinsNs

section
variable (prog : Program) (w : World) (h₀ : Heap)

/-- «e» has the datum «d» where the names have the data «ρ». -/
def Ev (n : Nat) (sc : Scope) (ρ : Rho) (e : Expr) (d : PyData) : Prop :=
  ∀ (A : Around) (env : Env) (s : Shared) (H : Addr → Prop) (Q : Value → Shared → Prop) (E : Value → Shared → Prop),
    Rm n A → EnvG sc env → SC h₀ H env ρ s.heap →
    (∀ v h' tk, Kp s.heap h' → Rd H h' v d → Q v { s with heap := h', toks := tk }) →
    wpAny (model prog w) A (eval e env) Q E s

/-- the same of a test -/
def Te (n : Nat) (sc : Scope) (ρ : Rho) (e : Expr) (b : Bool) : Prop :=
  ∀ (A : Around) (env : Env) (s : Shared) (H : Addr → Prop) (Q : Bool → Shared → Prop) (E : Value → Shared → Prop),
    Rm n A → EnvG sc env → SC h₀ H env ρ s.heap →
    (∀ h' tk, Kp s.heap h' → Q b { s with heap := h', toks := tk }) →
    wpAny (model prog w) A (isTrue e env (eval e env)) Q E s

/-- the same of the items of a call, a tuple, a list -/
def Evs (n : Nat) (sc : Scope) (ρ : Rho) (es : List Expr) (ds : List PyData) : Prop :=
  ∀ (A : Around) (env : Env) (s : Shared) (H : Addr → Prop) (pos : Pos) (Q : List Value → Shared → Prop) (E : Value → Shared → Prop),
    Rm n A → EnvG sc env → SC h₀ H env ρ s.heap →
    (∀ vs h' tk, Kp s.heap h' → RdAll H h' vs ds → Q vs { s with heap := h', toks := tk }) →
    wpAny (model prog w) A (spliced (backTo pos (starEach es env))) Q E s

/-- a call of the value «f» -/
def Ca (n : Nat) (f : Value) (ds : List PyData) (d : PyData) : Prop :=
  ∀ (A : Around) (s : Shared) (H : Addr → Prop) (vs : List Value) (Q : Value → Shared → Prop) (E : Value → Shared → Prop),
    Rm n A → Kp h₀ s.heap → (∀ a, H a → ∃ o, s.heap.get? a = some o) → RdAll H s.heap vs ds →
    (∀ v h' tk, Kp s.heap h' → Rd H h' v d → Q v { s with heap := h', toks := tk }) →
    wpAny (model prog w) A (call f vs) Q E s
end
end Mine

namespace Mine

/-- an int as a datum; pairs -/
abbrev dI (i : Int) : PyData := .int i
abbrev dB (b : Bool) : PyData := .bool b

section
variable {prog : Program} {w : World} {h₀ : Heap} {mg mb : Str → Option Value} {n : Nat} {sc : Scope} {ρ : Rho}

theorem Ev.mono {m : Nat} {e : Expr} {d : PyData} (h : Ev prog w h₀ n sc ρ e d) (hm : n ≤ m) : Ev prog w h₀ m sc ρ e d :=
  fun A env s H Q E R => h A env s H Q E (R.mono hm)
theorem Ca.mono {m : Nat} {f : Value} {ds : List PyData} {d : PyData} (h : Ca prog w h₀ n f ds d) (hm : n ≤ m) : Ca prog w h₀ m f ds d :=
  fun A s H vs Q E R => h A s H vs Q E (R.mono hm)

theorem Ev.int {i : Int} {k pos} : Ev prog w h₀ n sc ρ (.Constant (.int i) k pos) (.int i) :=
  fun _ _ s _ _ _ _ _ _ hQ => wpAny_Constant_int (hQ _ s.heap _ (Kp.refl _) (.int _ _))
theorem Ev.str {x : Str} {k pos} : Ev prog w h₀ n sc ρ (.Constant (.str x) k pos) (.str x) :=
  fun _ _ s _ _ _ _ _ _ hQ => wpAny_Constant_str (hQ _ s.heap _ (Kp.refl _) (.str _ _))
theorem Ev.bool {b : Bool} {k pos} : Ev prog w h₀ n sc ρ (.Constant (.bool b) k pos) (.bool b) :=
  fun _ _ s _ _ _ _ _ _ hQ => wpAny_Constant_bool (hQ _ s.heap s.toks (Kp.refl _) (.bool _))
theorem Ev.none {k pos} : Ev prog w h₀ n sc ρ (.Constant .none k pos) .none :=
  fun _ _ s _ _ _ _ _ _ hQ => wpAny_Constant_none (hQ _ s.heap s.toks (Kp.refl _) .none)

theorem Ev.name {x : Str} {pos} {d : PyData} (hr : ρ.lookup x = some d) (hk : sc.kind = .function := by rfl) (hd : (x == ("__debug__" : Str)) = false := by decide) :
    Ev prog w h₀ n sc ρ (.Name x pos) d := fun A env s H Q E _ G S hQ => by
  obtain ⟨m, hn, hv⟩ := S.loc
  have hk' : env.scope.kind = .function := by rw [G.scope]; exact hk
  rcases hv x d hr with ⟨kl, v, e, r⟩ | ⟨kl, c, v, e, ic, r⟩
  · exact wpAny_Name (wpAny_loadName_local hk' kl hn e (hQ v s.heap s.toks (Kp.refl _) r)) hd
  · exact wpAny_Name (wpAny_loadName_cell hk' kl e ic (hQ v s.heap s.toks (Kp.refl _) r)) hd

theorem glob_wp {x : Str} {pos} {v : Value} {A : Around} {env : Env} {s : Shared} {Q : Value → Shared → Prop} {E : Value → Shared → Prop} {H : Addr → Prop} (X : Ground h₀ mg mb) (G : EnvG sc env) (S : SC h₀ H env ρ s.heap)
    (hl : sc.names.lookup x = some .globalImplicit) (hv : mg x = some v) (h : Q v s) (hk : sc.kind = .function) (hd : (x == ("__debug__" : Str)) = false) : wpAny (model prog w) A (eval (.Name x pos) env) Q E s :=
  Calls.Name_function_global (by rw [G.scope]; exact hk) (by rw [Env.kindOf, G.scope]; exact hl) (Calls.loadGlobal_global (by rw [G.globals]; exact X.g.keeps S.base) hv h) hd
theorem blt_wp {x : Str} {pos} {v : Value} {A : Around} {env : Env} {s : Shared} {Q : Value → Shared → Prop} {E : Value → Shared → Prop} {H : Addr → Prop} (X : Ground h₀ mg mb) (G : EnvG sc env) (S : SC h₀ H env ρ s.heap)
    (hl : sc.names.lookup x = some .globalImplicit) (hm : x ∈ (["min", "max", "abs", "int", "sum", "len", "list", "range"] : List Str)) (hv : bootBuiltins x = some v) (h : Q v s) (hk : sc.kind = .function) (hd : (x == ("__debug__" : Str)) = false) :
    wpAny (model prog w) A (eval (.Name x pos) env) Q E s :=
  Calls.Name_function_global (by rw [G.scope]; exact hk) (by rw [Env.kindOf, G.scope]; exact hl)
    (Calls.loadGlobal_builtin (by rw [G.globals]; exact X.g.keeps S.base) (X.free x hm) (by rw [G.builtins]; exact X.b.keeps S.base) (by rw [X.builtins x hm]; exact hv) h) hd

theorem Ev.glob {x : Str} {pos} {i : Int} (X : Ground h₀ mg mb) (hv : ∃ t, mg x = some (.int i t)) (hl : sc.names.lookup x = some .globalImplicit := by rfl) (hk : sc.kind = .function := by rfl) (hd : (x == ("__debug__" : Str)) = false := by decide) :
    Ev prog w h₀ n sc ρ (.Name x pos) (.int i) := fun A env s H Q E _ G S hQ => by
  obtain ⟨t, hv⟩ := hv
  exact glob_wp X G S hl hv (hQ _ s.heap s.toks (Kp.refl _) (.int _ _)) hk hd

/-- two operands, one step -/
theorem ev_two {l r : Expr} {a b : PyData} (ha : Ev prog w h₀ n sc ρ l a) (hb : Ev prog w h₀ n sc ρ r b) {A : Around} {env : Env} {s : Shared} {H : Addr → Prop} {E : Value → Shared → Prop} {Q : Value → Value → Shared → Prop}
    (R : Rm n A) (G : EnvG sc env) (S : SC h₀ H env ρ s.heap) (h : ∀ v u h' tk, Kp s.heap h' → Rd H h' v a → Rd H h' u b → SC h₀ H env ρ h' → Q v u { s with heap := h', toks := tk }) :
    wpAny (model prog w) A (eval l env) (fun v s₁ => wpAny (model prog w) A (eval r env) (fun u s₂ => Q v u s₂) E s₁) E s :=
  ha A env s H _ E R G S fun v h₁ tk k₁ r₁ => hb A env _ H _ E R G (S.keep k₁) fun u h₂ tk₂ k₂ r₂ => h v u h₂ tk₂ (k₁.trans k₂) (r₁.keep k₂) r₂ ((S.keep k₁).keep k₂)

theorem Ev.add {l r : Expr} {pos} {a b : Int} (ha : Ev prog w h₀ n sc ρ l (.int a)) (hb : Ev prog w h₀ n sc ρ r (.int b)) : Ev prog w h₀ n sc ρ (.BinOp l .Add r pos) (.int (a + b)) :=
  fun A env s H Q E R G S hQ => wpAny_BinOp (ev_two ha hb R G S fun v u h' tk k ra rb _ => by
    obtain ⟨t, rfl⟩ := ra.isInt; obtain ⟨t', rfl⟩ := rb.isInt
    exact PyProof.Rows.add_int (hQ _ h' _ k (.int _ _)))
theorem Ev.sub {l r : Expr} {pos} {a b : Int} (ha : Ev prog w h₀ n sc ρ l (.int a)) (hb : Ev prog w h₀ n sc ρ r (.int b)) : Ev prog w h₀ n sc ρ (.BinOp l .Sub r pos) (.int (a - b)) :=
  fun A env s H Q E R G S hQ => wpAny_BinOp (ev_two ha hb R G S fun v u h' tk k ra rb _ => by
    obtain ⟨t, rfl⟩ := ra.isInt; obtain ⟨t', rfl⟩ := rb.isInt
    exact PyProof.Rows.sub_int (hQ _ h' _ k (.int _ _)))
theorem Ev.mul {l r : Expr} {pos} {a b : Int} (ha : Ev prog w h₀ n sc ρ l (.int a)) (hb : Ev prog w h₀ n sc ρ r (.int b)) (hm : IntMulOk a b) : Ev prog w h₀ n sc ρ (.BinOp l .Mult r pos) (.int (a * b)) :=
  fun A env s H Q E R G S hQ => wpAny_BinOp (ev_two ha hb R G S fun v u h' tk k ra rb _ => by
    obtain ⟨t, rfl⟩ := ra.isInt; obtain ⟨t', rfl⟩ := rb.isInt
    exact PyProof.Rows.mul_int (hQ _ h' _ k (.int _ _)) hm)
theorem Ev.div {l r : Expr} {pos} {a b : Int} (ha : Ev prog w h₀ n sc ρ l (.int a)) (hb : Ev prog w h₀ n sc ρ r (.int b)) (h0 : b ≠ 0) (hs : b.natAbs < 1073741824) : Ev prog w h₀ n sc ρ (.BinOp l .FloorDiv r pos) (.int (a.fdiv b)) :=
  fun A env s H Q E R G S hQ => wpAny_BinOp (ev_two ha hb R G S fun v u h' tk k ra rb _ => by
    obtain ⟨t, rfl⟩ := ra.isInt; obtain ⟨t', rfl⟩ := rb.isInt
    exact PyProof.Rows.floordiv_int h0 (hQ _ h' _ k (.int _ _)) (.inl (PyProof.noPylong_small hs)))
theorem Ev.mod {l r : Expr} {pos} {a b : Int} (ha : Ev prog w h₀ n sc ρ l (.int a)) (hb : Ev prog w h₀ n sc ρ r (.int b)) (h0 : b ≠ 0) : Ev prog w h₀ n sc ρ (.BinOp l .Mod r pos) (.int (a.fmod b)) :=
  fun A env s H Q E R G S hQ => wpAny_BinOp (ev_two ha hb R G S fun v u h' tk k ra rb _ => by
    obtain ⟨t, rfl⟩ := ra.isInt; obtain ⟨t', rfl⟩ := rb.isInt
    exact PyProof.Rows.mod_int' h0 (hQ _ h' _ k (.int _ _)))

/-! comparisons -/

/-- what «op» answers of two data -/
def CmpD (op : CmpOp) (a b : PyData) (c : Bool) : Prop :=
  ∀ (prog : Program) (w : World) (A : Around) (s : Shared) (H : Addr → Prop) (v u : Value) (Q : Value → Shared → Prop) (E : Value → Shared → Prop),
    A.units + 80 < cLine → Rd H s.heap v a → Rd H s.heap u b → Q (.bool c) s → wpAny (model prog w) A (compareOp op v u) Q E s

theorem CmpD.lt (a b : Int) : CmpD .Lt (.int a) (.int b) (decide (a < b)) := fun prog w A s H v u Q E _ ra rb h => by
  obtain ⟨t, rfl⟩ := ra.isInt; obtain ⟨t', rfl⟩ := rb.isInt
  exact PyProof.Rows.lt_int h
theorem CmpD.gt (a b : Int) : CmpD .Gt (.int a) (.int b) (decide (b < a)) := fun prog w A s H v u Q E _ ra rb h => by
  obtain ⟨t, rfl⟩ := ra.isInt; obtain ⟨t', rfl⟩ := rb.isInt
  exact PyProof.Rows.gt_int h
theorem CmpD.le (a b : Int) : CmpD .LtE (.int a) (.int b) (decide (a ≤ b)) := fun prog w A s H v u Q E _ ra rb h => by
  obtain ⟨t, rfl⟩ := ra.isInt; obtain ⟨t', rfl⟩ := rb.isInt
  exact PyProof.Rows.le_int h
theorem CmpD.ge (a b : Int) : CmpD .GtE (.int a) (.int b) (decide (b ≤ a)) := fun prog w A s H v u Q E _ ra rb h => by
  obtain ⟨t, rfl⟩ := ra.isInt; obtain ⟨t', rfl⟩ := rb.isInt
  exact PyProof.Rows.ge_int h
theorem CmpD.eq {a b : PyData} (ha : SeqAt.shaped a = true) (hb : SeqAt.shaped b = true) : CmpD .Eq a b (PyData.eqv a b) := fun prog w A s H v u Q E hu ra rb h => by
  obtain ⟨as, ra⟩ := ra.reads; obtain ⟨bs, rb⟩ := rb.reads
  exact eq_dataH ra rb ha hb (by omega) h
theorem CmpD.ne {a b : PyData} (ha : SeqAt.shaped a = true) (hb : SeqAt.shaped b = true) : CmpD .NotEq a b (!PyData.eqv a b) := fun prog w A s H v u Q E hu ra rb h => by
  obtain ⟨as, ra⟩ := ra.reads; obtain ⟨bs, rb⟩ := rb.reads
  exact ne_dataH ra rb ha hb (by omega) h
theorem CmpD.isIn {d : PyData} {xs : List PyData} (hxs : PyData.canLayAll0 xs = true) (hd : d.canLay0 = true) (hu : d.depth ≤ 64) : CmpD .In d (.list xs) (xs.any fun y => PyData.eqv y d) := fun prog w A s H v u Q E hA ra rb h => by
  obtain ⟨as, ra⟩ := ra.reads; obtain ⟨bs, rb⟩ := rb.reads
  refine SeqAt.in_list_reads rb ra hxs hd ?_ h
  have := Nat.min_le_right (PyData.depthAll xs) d.depth
  omega
theorem CmpD.isNone {d : PyData} {c : Bool} (hc : c = (match d with | .none => true | _ => false)) : CmpD .Is d .none c := fun prog w A s H v u Q E _ ra rb h => by
  cases rb
  refine is_none ?_
  cases ra <;> subst hc <;> exact h

theorem Ev.cmp {op : CmpOp} {l r : Expr} {pos} {a b : PyData} {c : Bool} (ha : Ev prog w h₀ n sc ρ l a) (hb : Ev prog w h₀ n sc ρ r b) (hc : CmpD op a b c) (hm : behindInMarks op r = false := by with_unfolding_all rfl) :
    Ev prog w h₀ n sc ρ (.Compare l [op] [r] pos) (.bool c) :=
  fun A env s H Q E R G S hQ => wpAny_Compare1 (ev_two ha hb R G S fun v u h' tk k ra rb _ =>
    hc prog w A _ H v u _ _ (by have := R.un; omega) ra rb (hQ _ h' tk k (.bool c))) hm
theorem Te.cmp {op : CmpOp} {l r : Expr} {pos} {a b : PyData} {c : Bool} (ha : Ev prog w h₀ n sc ρ l a) (hb : Ev prog w h₀ n sc ρ r b) (hc : CmpD op a b c) (hm : behindInMarks op r = false := by with_unfolding_all rfl) :
    Te prog w h₀ n sc ρ (.Compare l [op] [r] pos) c :=
  fun A env s H Q E R G S hQ => wpAny_isTrue_Compare1 (ev_two ha hb R G S fun v u h' tk k ra rb _ =>
    hc prog w A _ H v u _ _ (by have := R.un; omega) ra rb (wpAny_truthy_bool (hQ h' tk k))) hm

theorem Te.not {e : Expr} {pos} {b : Bool} (h : Te prog w h₀ n sc ρ e b) : Te prog w h₀ n sc ρ (.UnaryOp .Not e pos) (!b) :=
  fun A env s H Q E R G S hQ => wpAny_isTrue_Not (h A env s H _ E R G S fun h' tk k => hQ h' tk k)
theorem Te.val {e : Expr} {b : Bool} (h : Ev prog w h₀ n sc ρ e (.bool b)) (he : ∀ env whole, isTrue e env whole = (do let v ← whole; standAt e.pos; holding [v] (truthy v)) := by intro _ _; rfl) : Te prog w h₀ n sc ρ e b :=
  fun A env s H Q E R G S hQ => wpAny_isTrue_value (h A env s H _ E R G S fun v h' tk k r => by
    cases r; exact wpAny_truthy_bool (hQ h' tk k)) (he _ _)

/-- the and, the or of tests, in turn -/
inductive Ands (T : Expr → Bool → Prop) : List Expr → Bool → Prop
  | nil : Ands T [] true
  | no {e es} : T e false → Ands T (e :: es) false
  | go {e es b} : T e true → Ands T es b → Ands T (e :: es) b
inductive Ors (T : Expr → Bool → Prop) : List Expr → Bool → Prop
  | nil : Ors T [] false
  | yes {e es} : T e true → Ors T (e :: es) true
  | go {e es b} : T e false → Ors T es b → Ors T (e :: es) b

theorem Te.and {es : List Expr} {pos} {b : Bool} (h : Ands (Te prog w h₀ n sc ρ) es b) : Te prog w h₀ n sc ρ (.BoolOp .And es pos) b := fun A env s H Q E R G S hQ => by
  refine wpAny_isTrue_BoolOp ?_
  induction h generalizing s Q with
  | nil => exact wpAny_allTrue_And_nil (hQ s.heap s.toks (Kp.refl _))
  | no h => exact wpAny_allTrue_And_cons (h A env s H _ E R G S fun h' tk k => hQ h' tk k)
  | go h _ ih => exact wpAny_allTrue_And_cons (h A env s H _ E R G S fun h' tk k => ih _ _ (S.keep k) fun h'' tk' k' => hQ h'' tk' (k.trans k'))
theorem Te.or {es : List Expr} {pos} {b : Bool} (h : Ors (Te prog w h₀ n sc ρ) es b) : Te prog w h₀ n sc ρ (.BoolOp .Or es pos) b := fun A env s H Q E R G S hQ => by
  refine wpAny_isTrue_BoolOp ?_
  induction h generalizing s Q with
  | nil => exact wpAny_allTrue_Or_nil (hQ s.heap s.toks (Kp.refl _))
  | yes h => exact wpAny_allTrue_Or_cons (h A env s H _ E R G S fun h' tk k => hQ h' tk k)
  | go h _ ih => exact wpAny_allTrue_Or_cons (h A env s H _ E R G S fun h' tk k => ih _ _ (S.keep k) fun h'' tk' k' => hQ h'' tk' (k.trans k'))

theorem Ev.ite {t b o : Expr} {pos} {c : Bool} {d : PyData} (ht : Te prog w h₀ n sc ρ t c) (h1 : c = true → Ev prog w h₀ n sc ρ b d) (h2 : c = false → Ev prog w h₀ n sc ρ o d) : Ev prog w h₀ n sc ρ (.IfExp t b o pos) d :=
  fun A env s H Q E R G S hQ => wpAny_IfExp (ht A env s H _ E R G S fun h' tk k => by
    cases c with
    | true => exact h1 rfl A env _ H _ E R G (S.keep k) fun v h'' tk' k' r => hQ v h'' tk' (k.trans k') r
    | false => exact h2 rfl A env _ H _ E R G (S.keep k) fun v h'' tk' k' r => hQ v h'' tk' (k.trans k') r)

/-- the two-operand and, or as values (bools) -/
theorem Ev.and2 {x y : Expr} {pos} {b c : Bool} (h : Ev prog w h₀ n sc ρ x (.bool b)) (h' : b = true → Ev prog w h₀ n sc ρ y (.bool c)) (hc : b = false → c = false) : Ev prog w h₀ n sc ρ (.BoolOp .And [x, y] pos) (.bool c) :=
  fun A env s H Q E R G S hQ => wpAny_And2 (h A env s H _ E R G S fun v h₁ tk k r => by
    cases r
    refine wpAny_truthy_bool ?_
    cases b with
    | true => exact h' rfl A env _ H _ E R G (S.keep k) fun v h'' tk' k' r => hQ v h'' tk' (k.trans k') r
    | false => have := hc rfl; subst this; exact hQ _ h₁ tk k (.bool _))
theorem Ev.or2 {x y : Expr} {pos} {b c : Bool} (h : Ev prog w h₀ n sc ρ x (.bool b)) (h' : b = false → Ev prog w h₀ n sc ρ y (.bool c)) (hc : b = true → c = true) : Ev prog w h₀ n sc ρ (.BoolOp .Or [x, y] pos) (.bool c) :=
  fun A env s H Q E R G S hQ => wpAny_Or2 (h A env s H _ E R G S fun v h₁ tk k r => by
    cases r
    refine wpAny_truthy_bool ?_
    cases b with
    | false => exact h' rfl A env _ H _ E R G (S.keep k) fun v h'' tk' k' r => hQ v h'' tk' (k.trans k') r
    | true => have := hc rfl; subst this; exact hQ _ h₁ tk k (.bool _))

/-! items -/
theorem Evs.nil : Evs prog w h₀ n sc ρ [] [] := fun _ _ s _ _ _ _ _ _ _ hQ => wpAny_items_nil (hQ [] s.heap s.toks (Kp.refl _) .nil)
theorem Evs.cons {e : Expr} {es : List Expr} {d : PyData} {ds : List PyData} (h : Ev prog w h₀ n sc ρ e d) (hs : Evs prog w h₀ n sc ρ es ds)
    (he : ∀ env, starEach (e :: es) env = (false, eval e env) :: starEach es env := by intro _; rfl) : Evs prog w h₀ n sc ρ (e :: es) (d :: ds) := fun A env s H pos Q E R G S hQ =>
  wpAny_items_cons (h A env s H _ E R G S fun v h₁ tk k r => hs A env _ H pos _ E R G (S.keep k) fun vs h₂ tk₂ k₂ r₂ => hQ (v :: vs) h₂ tk₂ (k.trans k₂) (.cons (r.keep k₂) r₂)) (he env)

theorem Ev.tuple {es : List Expr} {k pos} {ds : List PyData} (h : Evs prog w h₀ n sc ρ es ds) (hl : ds.length ≤ 64 := by exact Nat.le_of_ble_eq_true rfl) : Ev prog w h₀ n sc ρ (.Tuple es k pos) (.tuple ds) :=
  fun A env s H Q E R G S hQ => wpAny_Tuple (h A env s H pos _ E R G S fun vs h' tk kk r => by
    refine ⟨by rw [r.length, sizeLine_eq]; omega, hQ _ _ tk (kk.trans (Kp.push _ _)) ?_⟩
    exact .tuple ((S.keep kk).new (get?_size h')) (Heap.get?_push_size _ rfl) rfl rfl (by simpa using r.keep (Kp.push _ _)))
theorem Ev.list {es : List Expr} {pos} {ds : List PyData} (h : Evs prog w h₀ n sc ρ es ds) (hl : ds.length ≤ 64 := by exact Nat.le_of_ble_eq_true rfl) : Ev prog w h₀ n sc ρ (.List es pos) (.list ds) :=
  fun A env s H Q E R G S hQ => wpAny_List (h A env s H pos _ E R G S fun vs h' tk kk r => by
    refine ⟨by rw [r.length, sizeLine_eq]; omega, hQ _ _ tk (kk.trans (Kp.push _ _)) ?_⟩
    exact .list ((S.keep kk).new (get?_size h')) (Heap.get?_push_size _ rfl) rfl rfl (by simpa using r.keep (Kp.push _ _)))

/-! an item at a place -/
theorem Ev.item {v : Expr} {i : Int} {k p pos} {ds : List PyData} {d : PyData} (h : Ev prog w h₀ n sc ρ v (.tuple ds)) (h0 : 0 ≤ i := by decide) (hi : i < 2 ^ 62 := by decide) (hd : ds[i.toNat]? = some d := by rfl) :
    Ev prog w h₀ n sc ρ (.Subscript v (.Constant (.int i) k p) pos) d := fun A env s H Q E R G S hQ => by
  refine Subscript_ (h A env s H _ E R G S fun o h' tk kk r => wpAny_Constant_int ?_)
  cases r with
  | @tuple a o vs c xs ha ho hc hs q =>
    obtain ⟨x, hx, rx⟩ := q.get hd
    have hlt := (List.getElem?_eq_some_iff.mp hx).1
    have hj : seqIndex? i vs.size = some i.toNat := by
      have hlt' : i.toNat < vs.size := by simpa using hlt
      unfold seqIndex?
      simp only [show ¬ i < 0 by omega, if_false]
      first | (rw [if_pos (by omega)]) | (simp; omega)
    exact tail_any (o := .ref a) (i := .int i tk) (s := { s with heap := h', toks := tk + 1 }) (T := "tuple") (ops := [.ref a, .int i tk]) ⟨_, ho, hc⟩ slot_tuple_getitem.lookup
      (PyProof.Rows.getItem_tuple (j := i.toNat) (x := x) ⟨_, ho, hc, _, hs⟩ (by omega) (by omega) hj (by simpa using hx) (hQ _ h' _ kk rx)) (by with_unfolding_all rfl)
theorem Ev.itemL {v ix : Expr} {pos} {i : Int} {ds : List PyData} {d : PyData} (h : Ev prog w h₀ n sc ρ v (.list ds)) (hx : Ev prog w h₀ n sc ρ ix (.int i)) (h0 : 0 ≤ i) (hi : i < 2 ^ 62) (hd : ds[i.toNat]? = some d)
    (hs : ∀ o i' t, subscripted ix false (.ref o) (.int i' t) = operate [.ref o, .int i' t] (getItem (.ref o) (.int i' t)) := by intro _ _ _; with_unfolding_all rfl) :
    Ev prog w h₀ n sc ρ (.Subscript v ix pos) d := fun A env s H Q E R G S hQ => by
  refine Subscript_ (h A env s H _ E R G S fun o h' tk kk r => hx A env _ H _ E R G (S.keep kk) fun i' h'' tk' kk' r' => ?_)
  obtain ⟨a, vs, rfl, _, hl, q⟩ := r.isList
  obtain ⟨t, rfl⟩ := r'.isInt
  obtain ⟨x, hx, rx⟩ := q.get hd
  have hl' : h''.IsList a vs.toArray := let ⟨o, ho, z⟩ := hl; ⟨o, kk' _ _ ho, z⟩
  exact tail_any (s := { s with heap := h'', toks := tk' }) (T := "list") hl'.typeIs slot_list_getitem.lookup (wpAny_getItem_list hl' h0 (by omega) (by simpa using hx) (hQ _ h'' _ (kk.trans kk') (rx.keep kk'))) (hs _ _ _)
end
end Mine

namespace Mine

/-! # calls -/

section
variable {prog : Program} {w : World} {h₀ : Heap} {mg mb : Str → Option Value} {n : Nat} {sc : Scope} {ρ : Rho}

theorem backTo_cons (pos : Pos) (t : Sem Value) (r : List (Bool × Sem Value)) : backTo pos ((false, t) :: r) = (false, t) :: backTo pos r := rfl

/-- a call whose function is a built-in function's or type's name -/
theorem Ev.blt {f : Str} {e : Expr} {es : List Expr} {p pos} {ds : List PyData} {d : PyData} {fv : Value} (X : Ground h₀ mg mb)
    (h : Evs prog w h₀ n sc ρ (e :: es) ds) (c : Ca prog w h₀ n fv ds d)
    (hv : bootBuiltins f = some fv := by rfl) (hf : (∃ id, fv = .builtin id) ∨ ∃ T, fv = .type T := by first | exact .inl ⟨_, rfl⟩ | exact .inr ⟨_, rfl⟩)
    (hl : sc.names.lookup f = some .globalImplicit := by rfl) (hm : f ∈ (["min", "max", "abs", "int", "sum", "len", "list", "range"] : List Str) := by decide)
    (hk : sc.kind = .function := by rfl) (hd : (f == ("__debug__" : Str)) = false := by decide)
    (he : ∀ env, starEach (e :: es) env = (false, eval e env) :: starEach es env := by intro _; rfl)
    (hp : ∀ env pos, (backTo pos (starEach es env)).any (·.1) = false := by intro _ _; rfl) :
    Ev prog w h₀ n sc ρ (.Call (.Name f p) (e :: es) [] pos) d := fun A env s H Q E R G S hQ => by
  refine wpAny_Call_Name_kw ?_
  refine blt_wp X G S hl hm hv ?_ hk hd
  have main : wpAny (model prog w) A (evalArgs fv true (backTo pos (starEach (e :: es) env)) []) (fun a s₁ => wpAny (model prog w) A (call fv ([] ++ a.pos) a.kw) Q E s₁) E s := by
    have q := h A env s H pos (fun vs s₁ => wpAny (model prog w) A (call fv vs) Q E s₁) E R G S fun vs h' tk k r => c A _ H vs Q E R (S.keep k).base (S.keep k).live r fun v h'' tk' k' r' => hQ v h'' tk' (k.trans k') r'
    rw [he] at q ⊢
    exact Calls.evalArgs_plain q
  have hp' : (backTo pos (starEach (e :: es) env)).any (·.1) = false := by rw [he]; show (false || (backTo pos (starEach es env)).any (·.1)) = false; rw [hp]; rfl
  rcases hf with ⟨id, rfl⟩ | ⟨T, rfl⟩
  · exact Calls.callWith_builtin hp' main
  · exact PyProof.Rows.callWith_type hp' main

/-- a def of the text, by its place -/
def Fn (prog : Program) (w : World) (h₀ : Heap) (mg : Str → Option Value) (n : Nat) (i : Nat) (ds : List PyData) (d : PyData) : Prop :=
  ∀ a, mg (defAt i).name = some (.ref a) → Ca prog w h₀ n (.ref a) ds d

theorem Fn.mono {m i : Nat} {ds : List PyData} {d : PyData} (h : Fn prog w h₀ mg n i ds d) (hm : n ≤ m) : Fn prog w h₀ mg m i ds d := fun a e => (h a e).mono hm

theorem Ev.dcall {f : Str} {e : Expr} {es : List Expr} {p pos} {ds : List PyData} {d : PyData} (i : Nat) (X : Ground h₀ mg mb)
    (h : Evs prog w h₀ n sc ρ (e :: es) ds) (c : Fn prog w h₀ mg n i ds d)
    (hi : (defAt i).name = f := by rfl) (h2 : 2 < i := by decide) (h31 : i < 31 := by decide) (h20 : i ≠ 20 := by decide)
    (hl : sc.names.lookup f = some .globalImplicit := by rfl) (hk : sc.kind = .function := by rfl) (hd : (f == ("__debug__" : Str)) = false := by decide)
    (he : ∀ env, starEach (e :: es) env = (false, eval e env) :: starEach es env := by intro _; rfl) :
    Ev prog w h₀ n sc ρ (.Call (.Name f p) (e :: es) [] pos) d := fun A env s H Q E R G S hQ => by
  obtain ⟨a, o, pm, code, doc, hmg, ho, hdt, hcd⟩ := X.fn i h2 h31 h20
  refine wpAny_Call_Name_kw ?_
  refine glob_wp X G S hl (hi ▸ hmg) ?_ hk hd
  refine Calls.callWith_function (o := o) (fd := Calls.docDef (defAt i).name (defAt i).params (defAt i).body (defAt i).scope pm code doc) ?_
  have q := h A env s H pos (fun vs s₁ => (s₁.heap.get? a = some o ∧ o.data = .func (Calls.docDef (defAt i).name (defAt i).params (defAt i).body (defAt i).scope pm code doc)) ∧ wpAny (model prog w) A (call (.ref a) vs) Q E s₁) E R G S
    fun vs h' tk k r => ⟨⟨(S.keep k).base _ _ ho, hdt⟩, c a hmg A _ H vs Q E R (S.keep k).base (S.keep k).live r fun v h'' tk' k' r' => hQ v h'' tk' (k.trans k') r'⟩
  rw [he] at q ⊢
  exact Calls.evalArgs_plain q

theorem Ev.dcall0 {f : Str} {p pos} {d : PyData} (i : Nat) (X : Ground h₀ mg mb) (c : Fn prog w h₀ mg n i [] d)
    (hi : (defAt i).name = f := by rfl) (h2 : 2 < i := by decide) (h31 : i < 31 := by decide) (h20 : i ≠ 20 := by decide)
    (hl : sc.names.lookup f = some .globalImplicit := by rfl) (hk : sc.kind = .function := by rfl) (hd : (f == ("__debug__" : Str)) = false := by decide) :
    Ev prog w h₀ n sc ρ (.Call (.Name f p) [] [] pos) d := fun A env s H Q E R G S hQ => by
  obtain ⟨a, o, pm, code, doc, hmg, ho, hdt, hcd⟩ := X.fn i h2 h31 h20
  refine wpAny_Call_Name_kw ?_
  refine glob_wp X G S hl (hi ▸ hmg) ?_ hk hd
  refine Calls.callWith_function (o := o) (fd := Calls.docDef (defAt i).name (defAt i).params (defAt i).body (defAt i).scope pm code doc) ?_
  exact PySem.evalArgs_none ⟨⟨S.base _ _ ho, hdt⟩, c a hmg A s H [] Q E R S.base S.live .nil fun v h'' tk' k' r' => hQ v h'' tk' k' r'⟩

/-! # what the built-ins answer -/

theorem intsAre_items {H : Addr → Prop} {h : Heap} : ∀ {vs : List Value} {ns : List Int}, RdAll H h vs (ns.map .int) → ∃ xs : List (Int × Tok), vs = xs.map (fun p => .int p.1 p.2) ∧ ns = xs.map (·.1)
  | _, [], r => by cases r; exact ⟨[], rfl, rfl⟩
  | _, n :: ns, r => by
    cases r with
    | cons p r =>
      obtain ⟨t, rfl⟩ := p.isInt
      obtain ⟨xs, rfl, rfl⟩ := intsAre_items r
      exact ⟨(n, t) :: xs, rfl, rfl⟩

def IsMin (ns : List Int) (m : Int) : Prop := m ∈ ns ∧ ∀ x ∈ ns, m ≤ x
def IsMax (ns : List Int) (m : Int) : Prop := m ∈ ns ∧ ∀ x ∈ ns, x ≤ m
theorem IsMin.eq {ns : List Int} {a b : Int} (x : IsMin ns a) (y : IsMin ns b) : a = b := Int.le_antisymm (x.2 _ y.1) (y.2 _ x.1)
theorem IsMax.eq {ns : List Int} {a b : Int} (x : IsMax ns a) (y : IsMax ns b) : a = b := Int.le_antisymm (y.2 _ x.1) (x.2 _ y.1)

theorem numAt_lt {xs : List (Int × Tok)} {i : Nat} (hi : i < xs.length) : numAt xs.toArray i ∈ xs.map (·.1) := by
  simp only [numAt, List.getElem?_toArray, List.getElem?_eq_getElem hi, Option.map_some, Option.getD_some]
  exact List.mem_map.mpr ⟨_, List.getElem_mem hi, rfl⟩
theorem numAt_of_mem {xs : List (Int × Tok)} {x : Int} (h : x ∈ xs.map (·.1)) : ∃ i, i < xs.length ∧ numAt xs.toArray i = x := by
  obtain ⟨p, hp, rfl⟩ := List.mem_map.mp h
  obtain ⟨i, hi, rfl⟩ := List.getElem_of_mem hp
  exact ⟨i, hi, by simp [numAt, List.getElem?_eq_getElem hi]⟩

theorem Ca.min2 {a b : Int} : Ca prog w h₀ n (.builtin "min") [.int a, .int b] (.int (min a b)) := fun A s H vs Q E R _ _ r hQ => by
  cases r with
  | cons p r =>
    cases r with
    | cons q r =>
      cases r
      obtain ⟨t, rfl⟩ := p.isInt
      obtain ⟨u, rfl⟩ := q.isInt
      refine min_two_ints R.hh fun h' tk k => hQ _ h' tk k ?_
      by_cases c : b < a
      · rw [if_pos c, Int.min_eq_right (by omega)]; exact .int _ _
      · rw [if_neg c, Int.min_eq_left (by omega)]; exact .int _ _
theorem Ca.max2 {a b : Int} : Ca prog w h₀ n (.builtin "max") [.int a, .int b] (.int (max a b)) := fun A s H vs Q E R _ _ r hQ => by
  cases r with
  | cons p r =>
    cases r with
    | cons q r =>
      cases r
      obtain ⟨t, rfl⟩ := p.isInt
      obtain ⟨u, rfl⟩ := q.isInt
      refine max_two_ints R.hh fun h' tk k => hQ _ h' tk k ?_
      by_cases c : b > a
      · rw [if_pos c, Int.max_eq_right (by omega)]; exact .int _ _
      · rw [if_neg c, Int.max_eq_left (by omega)]; exact .int _ _

theorem rd_intList {H : Addr → Prop} {h : Heap} {vs : List Value} {ns : List Int} (r : RdAll H h vs [.list (ns.map .int)]) :
    ∃ (a : Addr) (xs : List (Int × Tok)), vs = [.ref a] ∧ h.IsList a (intItems xs.toArray) ∧ ns = xs.map (·.1) := by
  cases r with
  | cons p r =>
    cases r
    obtain ⟨a, vs, rfl, _, hl, q⟩ := p.isList
    obtain ⟨xs, rfl, e⟩ := intsAre_items q
    exact ⟨a, xs, rfl, by simpa [intItems] using hl, e⟩

theorem Ca.minL {ns : List Int} {m : Int} (hm : IsMin ns m) : Ca prog w h₀ n (.builtin "min") [.list (ns.map .int)] (.int m) := fun A s H vs Q E R _ _ r hQ => by
  obtain ⟨a, xs, rfl, hl, e⟩ := rd_intList r
  have hne : 0 < xs.length := by
    cases xs with
    | nil => subst e; exact absurd hm.1 (by simp)
    | cons x xs => simp
  refine min_intList R.hh hl (by simpa using hne) fun v h' tk hv k => hQ v h' tk k ?_
  have hb := argBest_lt (numAt xs.toArray) (xs.toArray.size - 1)
  obtain ⟨t, rfl⟩ := intItems_at hv
  have hsz : xs.toArray.size = xs.length := by simp
  rw [hsz] at hb ⊢
  have hj : argBest (fun i j => decide (numAt xs.toArray i < numAt xs.toArray j)) (xs.length - 1) < xs.length := by omega
  have : IsMin ns (numAt xs.toArray (argBest (fun i j => decide (numAt xs.toArray i < numAt xs.toArray j)) (xs.length - 1))) := by
    rw [e]
    refine ⟨numAt_lt hj, fun x hx => ?_⟩
    obtain ⟨i, hi, rfl⟩ := numAt_of_mem hx
    exact hb.2 i (by omega)
  rw [hm.eq this]
  exact .int _ _
theorem Ca.maxL {ns : List Int} {m : Int} (hm : IsMax ns m) : Ca prog w h₀ n (.builtin "max") [.list (ns.map .int)] (.int m) := fun A s H vs Q E R _ _ r hQ => by
  obtain ⟨a, xs, rfl, hl, e⟩ := rd_intList r
  have hne : 0 < xs.length := by
    cases xs with
    | nil => subst e; exact absurd hm.1 (by simp)
    | cons x xs => simp
  refine max_intList R.hh hl (by simpa using hne) fun v h' tk hv k => hQ v h' tk k ?_
  have hb := argBest_gt (numAt xs.toArray) (xs.toArray.size - 1)
  obtain ⟨t, rfl⟩ := intItems_at hv
  have hsz : xs.toArray.size = xs.length := by simp
  rw [hsz] at hb ⊢
  have hj : argBest (fun i j => decide (numAt xs.toArray i > numAt xs.toArray j)) (xs.length - 1) < xs.length := by omega
  have : IsMax ns (numAt xs.toArray (argBest (fun i j => decide (numAt xs.toArray i > numAt xs.toArray j)) (xs.length - 1))) := by
    rw [e]
    refine ⟨numAt_lt hj, fun x hx => ?_⟩
    obtain ⟨i, hi, rfl⟩ := numAt_of_mem hx
    exact hb.2 i (by omega)
  rw [hm.eq this]
  exact .int _ _

theorem Ca.abs {a : Int} : Ca prog w h₀ n (.builtin "abs") [.int a] (.int (if a < 0 then -a else a)) := fun A s H vs Q E R _ _ r hQ => by
  cases r with
  | cons p r =>
    cases r
    obtain ⟨t, rfl⟩ := p.isInt
    exact call_abs_int fun u tk => hQ _ s.heap tk (Kp.refl _) (.int _ _)
theorem Ca.int {a : Int} : Ca prog w h₀ n (.type "int") [.int a] (.int a) := fun A s H vs Q E R _ _ r hQ => by
  cases r with
  | cons p r =>
    cases r
    obtain ⟨t, rfl⟩ := p.isInt
    exact call_int_int (hQ _ s.heap s.toks (Kp.refl _) (.int _ _))
theorem Ca.len {ds : List PyData} (hl : ds.length ≤ 2 ^ 20) : Ca prog w h₀ n (.builtin "len") [.list ds] (.int ds.length) := fun A s H vs Q E R _ _ r hQ => by
  cases r with
  | cons p r =>
    cases r
    obtain ⟨a, vs, rfl, _, hl', q⟩ := p.isList
    have e : vs.toArray.size = ds.length := by rw [List.size_toArray, q.length]
    exact PyProof.Rows.len_list hl' (by rw [e]; omega) (by rw [e]; exact hQ _ s.heap _ (Kp.refl _) (.int _ _))
theorem preSum_numAt (xs : List (Int × Tok)) : ∀ k, k ≤ xs.length → preSum (numAt xs.toArray) k = ((xs.take k).map (·.1)).sum
  | 0, _ => by simp [preSum]
  | k + 1, hk => by
    rw [preSum, preSum_numAt xs k (by omega), List.take_add_one, List.getElem?_eq_getElem (by omega : k < xs.length)]
    rw [List.map_append, List.sum_append]
    simp [numAt, List.getElem?_eq_getElem (by omega : k < xs.length)]
theorem Ca.sum {ns : List Int} : Ca prog w h₀ n (.builtin "sum") [.list (ns.map .int)] (.int ns.sum) := fun A s H vs Q E R _ _ r hQ => by
  obtain ⟨a, xs, rfl, hl, e⟩ := rd_intList r
  refine sum_intListG R.hh hl fun h' tk t' k => hQ _ h' tk k ?_
  have hs : preSum (numAt xs.toArray) xs.toArray.size = ns.sum := by
    rw [List.size_toArray, preSum_numAt xs _ (Nat.le_refl _), List.take_length, e]
  rw [hs]; exact .int _ _

/-- the ints from a up to b, b not in it -/
def span (a : Int) (k : Nat) : List Int := (List.range k).map fun (i : Nat) => a + (i : Int)
theorem span_len (a : Int) (k : Nat) : (span a k).length = k := by simp [span]

theorem items_span {H : Addr → Prop} {h : Heap} {a : Int} : ∀ {k : Nat} {vs : List Value}, (vs.length = k ∧ ∀ (j : Nat) (v : Value), vs[j]? = some v → ∃ t : Tok, v = .int (a + (j : Int) * 1) t) → RdAll H h vs ((span a k).map .int) := by
  intro k
  induction k generalizing a with
  | zero => intro vs hv; obtain ⟨h1, _⟩ := hv; cases vs with | nil => exact .nil | cons _ _ => cases h1
  | succ k ih =>
    intro vs hv
    obtain ⟨h1, h2⟩ := hv
    cases vs with
    | nil => cases h1
    | cons v vs =>
      have e : span a (k + 1) = a :: span (a + 1) k := by
        simp only [span, List.range_succ_eq_map, List.map_cons, List.map_map]
        congr 1
        · simp
        · apply List.map_congr_left
          intro i _
          simp; omega
      rw [e, List.map_cons]
      obtain ⟨t, hv0⟩ := h2 0 v rfl
      have hv0' : v = .int a t := by simpa using hv0
      subst hv0'
      refine .cons (.int _ _) (ih ⟨by simpa using h1, fun j u hu => ?_⟩)
      obtain ⟨t', e'⟩ := h2 (j + 1) u (by simpa using hu)
      refine ⟨t', e'.trans ?_⟩
      congr 1
      simp; omega

theorem Ev.listRange {ea eb : Expr} {a b : Int} {p1 p2 pos1 pos2} (X : Ground h₀ mg mb) (ha : Ev prog w h₀ n sc ρ ea (.int a)) (hb : Ev prog w h₀ n sc ρ eb (.int b))
    (h1 : -(2 ^ 40) ≤ a) (h2 : a < 2 ^ 40) (h3 : -(2 ^ 40) ≤ b) (h4 : b < 2 ^ 40) (h5 : (b - a).toNat ≤ 2 ^ 24)
    (hl1 : sc.names.lookup ("list" : Str) = some .globalImplicit := by rfl) (hl2 : sc.names.lookup ("range" : Str) = some .globalImplicit := by rfl)
    (hk : sc.kind = .function := by rfl)
    (he : ∀ env, starEach [ea, eb] env = [(false, eval ea env), (false, eval eb env)] := by intro _; rfl) :
    Ev prog w h₀ n sc ρ (.Call (.Name "list" p1) [.Call (.Name "range" p2) [ea, eb] [] pos2] [] pos1) (.list ((span a (b - a).toNat).map .int)) := fun A env s H Q E R G S hQ => by
  refine wpAny_Call_Name_kw ?_
  refine blt_wp (v := .type "list") X G S hl1 (by decide) (by rfl) ?_ hk (by decide)
  refine PyProof.Rows.callWith_type rfl ?_
  refine Calls.evalArgs_plain ?_
  refine Calls.spliced_cons ?_
  refine wpAny_Call_Name_kw ?_
  refine blt_wp (v := .type "range") X G S hl2 (by decide) (by rfl) ?_ hk (by decide)
  rw [he]
  refine PyProof.Rows.callWith_type rfl ?_
  refine Calls.evalArgs_plain ?_
  refine Calls.spliced_cons (ha A env s H _ E R G S fun v h' tk k r => ?_)
  obtain ⟨t, rfl⟩ := r.isInt
  refine Calls.spliced_cons (hb A env _ H _ E R G (S.keep k) fun v h'' tk' k' r => ?_)
  obtain ⟨u, rfl⟩ := r.isInt
  refine Calls.spliced_nil ?_
  refine call_range_2 ?_
  refine Calls.spliced_nil ?_
  refine call_list_range (n := (b - a).toNat) R.hh (IsRange.new ..) (small_one (by omega) (by omega) (by omega) (by omega)) (rangeSize_nat _ _) h5 fun h3 tk3 acc' c' k3 hS hit => ?_
  have kk : Kp s.heap h3 := fun b o e => k3 _ _ (Heap.get?_push_of_some _ (k' _ _ (k _ _ e)))
  refine hQ _ h3 tk3 kk ?_
  have hnew : ¬ H (h''.push { cls := .type "range", data := .fields #[.int a t, .int b u, .int 1 tk'] }).objs.size := by
    refine (S.keep (k.trans (Kp.trans k' (Kp.push h'' _)))).new (get?_size _)
  exact .list hnew hS rfl rfl (items_span ⟨by simpa using hit.1, fun j v hj => by simpa using hit.2 j v (by simpa using hj)⟩)

/-! a slice of a list; two lists joined -/

def Part (n : Nat) (prog : Program) (w : World) (h₀ : Heap) (sc : Scope) (ρ : Rho) (e : Option Expr) (k : Option Int) : Prop :=
  match e, k with
  | none, none => True
  | some e, some i => Ev prog w h₀ n sc ρ e (.int i)
  | _, _ => False

theorem part_wp {e : Option Expr} {k : Option Int} (h : Part n prog w h₀ sc ρ e k) {A : Around} {env : Env} {s : Shared} {H : Addr → Prop} {Q : Value → Shared → Prop} {E : Value → Shared → Prop} (R : Rm n A) (G : EnvG sc env) (S : SC h₀ H env ρ s.heap)
    (hQ : ∀ v h' tk, Kp s.heap h' → IsPart v k → Q v { s with heap := h', toks := tk }) : wpAny (model prog w) A (evalPart e env) Q E s := by
  cases e with
  | none => cases k with
    | none => exact wpAny_pure (hQ .none s.heap s.toks (Kp.refl _) .none)
    | some i => exact h.elim
  | some e => cases k with
    | none => exact h.elim
    | some i =>
      have h' : Ev prog w h₀ n sc ρ e (.int i) := h
      exact h' A env s H Q E R G S fun v h' tk k r => by
        obtain ⟨t, rfl⟩ := r.isInt
        exact hQ _ h' tk k (.int _ _)

/-- what a slice takes of data -/
def sliceD (ds : List PyData) (lo hi : Option Int) : List PyData :=
  (sliceRange (sliceBounds lo hi none ds.length).1 (sliceBounds lo hi none ds.length).2.1 (sliceBounds lo hi none ds.length).2.2).filterMap (ds[·]?)

theorem rdAll_pick {H : Addr → Prop} {h : Heap} {vs : List Value} {ds : List PyData} (r : RdAll H h vs ds) : ∀ is : List Nat, RdAll H h (is.filterMap (vs[·]?)) (is.filterMap (ds[·]?))
  | [] => .nil
  | i :: is => by
    have ih := rdAll_pick r is
    by_cases hi : i < ds.length
    · obtain ⟨v, hv, rv⟩ := r.get (List.getElem?_eq_getElem hi)
      simp only [List.filterMap_cons, hv, List.getElem?_eq_getElem hi]
      exact .cons rv ih
    · have e1 : ds[i]? = Option.none := List.getElem?_eq_none (by omega)
      have e2 : vs[i]? = Option.none := List.getElem?_eq_none (by rw [r.length]; omega)
      simp only [List.filterMap_cons, e1, e2]
      exact ih

theorem Ev.slice {v : Expr} {lo hi : Option Expr} {p pos} {ds : List PyData} {a b : Option Int} (h : Ev prog w h₀ n sc ρ v (.list ds)) (hlo : Part n prog w h₀ sc ρ lo a) (hhi : Part n prog w h₀ sc ρ hi b) (hsz : ds.length ≤ 2 ^ 20)
    (ht : ∀ o r, letTemporaryGo v o r = pure () := by intro _ _; rfl) :
    Ev prog w h₀ n sc ρ (.Subscript v (.Slice lo hi Option.none p) pos) (.list (sliceD ds a b)) := fun A env s H Q E R G S hQ => by
  refine wpAny_Subscript_list_slice (h A env s H _ E R G S fun o h₁ t₁ k₁ r₁ => part_wp hlo R G (S.keep k₁) fun vl h₂ t₂ k₂ p₂ => part_wp hhi R G ((S.keep k₁).keep k₂) fun vu h₃ t₃ k₃ p₃ => ?_) ht
  obtain ⟨l, vs, rfl, hnl, hl, q⟩ := r₁.isList
  have k23 : Kp h₁ h₃ := k₂.trans k₃
  have hl3 : h₃.IsList l vs.toArray := let ⟨o, ho, z⟩ := hl; ⟨o, k23 _ _ ho, z⟩
  have hlen : vs.toArray.size = ds.length := by rw [List.size_toArray, q.length]
  refine ⟨l, vs.toArray, a, b, rfl, hl3, by rw [hlen, sizeLine_eq]; omega, p₂, p₃, ?_⟩
  have kk : Kp s.heap ((h₃.push { cls := .type "slice", data := .fields #[vl, vu, .none] }).push { cls := .type "list", data := .seq (slicePick vs.toArray a b Option.none) }) :=
    ((k₁.trans k23).trans (Kp.push _ _)).trans (Kp.push _ _)
  refine hQ _ _ t₃ kk ?_
  have hat : ((h₃.push { cls := .type "slice", data := .fields #[vl, vu, .none] }).push { cls := .type "list", data := .seq (slicePick vs.toArray a b Option.none) }).get? (h₃.objs.size + 1) = some { cls := .type "list", data := .seq (slicePick vs.toArray a b Option.none) } := by
    have := Heap.get?_push_size (h₃.push { cls := .type "slice", data := .fields #[vl, vu, .none] }) (o := { cls := .type "list", data := .seq (slicePick vs.toArray a b Option.none) }) rfl
    rwa [Heap.size_push] at this
  have hnew : ¬ H (h₃.objs.size + 1) := by
    have := (S.keep ((k₁.trans k23).trans (Kp.push h₃ { cls := .type "slice", data := .fields #[vl, vu, .none] }))).new (get?_size _)
    rwa [Heap.size_push] at this
  refine .list hnew hat rfl rfl ?_
  have e : (slicePick vs.toArray a b Option.none).toList = (sliceRange (sliceBounds a b Option.none ds.length).1 (sliceBounds a b Option.none ds.length).2.1 (sliceBounds a b Option.none ds.length).2.2).filterMap (vs[·]?) := by
    simp [slicePick, q.length]
  rw [e]
  exact (rdAll_pick q _).keep ((k23.trans (Kp.push _ _)).trans (Kp.push _ _))
end
end Mine

namespace Mine

/-! # frames and statements -/

def Own (env : Env) (a : Addr) : Prop := a = env.locals ∨ ∃ n, (n, a) ∈ env.cells

structure Fro (env : Env) (h : Heap) : Prop where
  apart : env.cells.Pairwise fun x y => x.2 ≠ y.2
  cell : ∀ n c, (n, c) ∈ env.cells → (∃ v, h.IsCell c v) ∧ c ≠ env.locals
  all : ∀ x, env.kindOf x = some .cell → ∃ c, env.cells.lookup x = some c

structure SS (h₀ : Heap) (H : Addr → Prop) (env : Env) (ρ : Rho) (h : Heap) : Prop extends SC h₀ H env ρ h where
  own : ∀ a, Own env a → H a
  fro : Fro env h
  new : ∀ a, Own env a → h₀.get? a = none

/-- all stands but the frame's own names and cells -/
def Kb (env : Env) (h h' : Heap) : Prop := ∀ a o, ¬ Own env a → h.get? a = some o → h'.get? a = some o
theorem Kb.refl (env : Env) (h : Heap) : Kb env h h := fun _ _ _ e => e
theorem Kb.trans {env : Env} {a b c : Heap} (x : Kb env a b) (y : Kb env b c) : Kb env a c := fun _ _ n e => y _ _ n (x _ _ n e)
theorem Kp.kb {env : Env} {h h' : Heap} (k : Kp h h') : Kb env h h' := fun _ _ _ e => k _ _ e

theorem Fro.keep {env : Env} {h h' : Heap} (x : Fro env h) (k : Kp h h') : Fro env h' := ⟨x.apart, fun n c hm => ⟨let ⟨v, hv⟩ := (x.cell n c hm).1; ⟨v, hv.keeps k⟩, (x.cell n c hm).2⟩, x.all⟩
theorem SS.keep {h₀ : Heap} {H : Addr → Prop} {env : Env} {ρ : Rho} {h h' : Heap} (x : SS h₀ H env ρ h) (k : Kp h h') : SS h₀ H env ρ h' := ⟨x.toSC.keep k, x.own, x.fro.keep k, x.new⟩

inductive Out where
  | next (ρ : Rho)
  | ret (d : PyData)

def OutIs (h₀ : Heap) (H : Addr → Prop) (env : Env) (o : Out) (f : Flow) (h : Heap) : Prop := match o with
  | .next ρ => f = .next ∧ SS h₀ H env ρ h
  | .ret d => ∃ v, f = .ret v ∧ Rd H h v d

section
variable (prog : Program) (w : World) (h₀ : Heap)
def Ex (n : Nat) (sc : Scope) (ρ : Rho) (st : Stmt) (o : Out) : Prop :=
  ∀ (A : Around) (env : Env) (s : Shared) (H : Addr → Prop) (Q : Flow → Shared → Prop) (E : Value → Shared → Prop),
    Rm n A → EnvG sc env → SS h₀ H env ρ s.heap →
    (∀ f h' tk, Kb env s.heap h' → OutIs h₀ H env o f h' → Q f { s with heap := h', toks := tk }) →
    wpAny (model prog w) A (exec st env) Q E s
def Exs (n : Nat) (sc : Scope) (ρ : Rho) (sts : List Stmt) (o : Out) : Prop :=
  ∀ (A : Around) (env : Env) (s : Shared) (H : Addr → Prop) (Q : Flow → Shared → Prop) (E : Value → Shared → Prop),
    Rm n A → EnvG sc env → SS h₀ H env ρ s.heap →
    (∀ f h' tk, Kb env s.heap h' → OutIs h₀ H env o f h' → Q f { s with heap := h', toks := tk }) →
    wpAny (model prog w) A (execs sts env) Q E s
end

section
variable {prog : Program} {w : World} {h₀ : Heap} {mg mb : Str → Option Value} {n : Nat} {sc : Scope} {ρ : Rho}

theorem Exs.nil : Exs prog w h₀ n sc ρ [] (.next ρ) := fun A env s H Q E R G S hQ => wpAny_execs_nil (hQ _ s.heap s.toks (Kb.refl _ _) ⟨rfl, S⟩)
theorem Exs.cons {st : Stmt} {rest : List Stmt} {ρ' : Rho} {o : Out} (h : Ex prog w h₀ n sc ρ st (.next ρ')) (hr : Exs prog w h₀ n sc ρ' rest o) : Exs prog w h₀ n sc ρ (st :: rest) o :=
  fun A env s H Q E R G S hQ => wpAny_execs_cons (h A env s H _ E R G S fun f h' tk k ho => by
    obtain ⟨rfl, S'⟩ := ho
    exact hr A env _ H _ E R G S' fun f h'' tk' k' ho' => hQ f h'' tk' (k.trans k') ho')
theorem Exs.ret {st : Stmt} {rest : List Stmt} {d : PyData} (h : Ex prog w h₀ n sc ρ st (.ret d)) : Exs prog w h₀ n sc ρ (st :: rest) (.ret d) :=
  fun A env s H Q E R G S hQ => wpAny_execs_cons (h A env s H _ E R G S fun f h' tk k ho => by
    obtain ⟨v, rfl, r⟩ := ho
    exact hQ _ h' tk k ⟨v, rfl, r⟩)

theorem Ex.ret {e : Expr} {pos} {d : PyData} (h : Ev prog w h₀ n sc ρ e d) : Ex prog w h₀ n sc ρ (.Return (some e) pos) (.ret d) :=
  fun A env s H Q E R G S hQ => wpAny_Return_some (h A env s H _ E R G S.toSC fun v h' tk k r => hQ _ h' tk k.kb ⟨v, rfl, r⟩)
theorem Ex.ifT {t : Expr} {b o : List Stmt} {pos} {c : Bool} {out : Out} (ht : Te prog w h₀ n sc ρ t c) (h1 : c = true → Exs prog w h₀ n sc ρ b out) (h2 : c = false → Exs prog w h₀ n sc ρ o out) :
    Ex prog w h₀ n sc ρ (.If t b o pos) out := fun A env s H Q E R G S hQ => wpAny_If (ht A env s H _ E R G S.toSC fun h' tk k => by
    cases c with
    | true => exact h1 rfl A env _ H _ E R G (S.keep k) fun f h'' tk' k' ho => hQ f h'' tk' (k.kb.trans k') ho
    | false => exact h2 rfl A env _ H _ E R G (S.keep k) fun f h'' tk' k' ho => hQ f h'' tk' (k.kb.trans k') ho)

theorem lookup_cons_ne {x y : Str} {d : PyData} {ρ : Rho} (h : y ≠ x) : List.lookup y ((x, d) :: ρ) = ρ.lookup y := by
  rw [List.lookup_cons, beq_eq_false_iff_ne.mpr h]
theorem lookup_cons_eq {x : Str} {d : PyData} {ρ : Rho} : List.lookup x ((x, d) :: ρ) = some d := by
  rw [List.lookup_cons]; simp

/-- a name is bound -/
theorem bind_wp {x : Str} {v : Value} {d : PyData} {A : Around} {env : Env} {s : Shared} {H : Addr → Prop} {Q : Unit → Shared → Prop} {E : Value → Shared → Prop} (G : EnvG sc env) (S : SS h₀ H env ρ s.heap) (r : Rd H s.heap v d)
    (hx : sc.names.lookup x = some .local ∨ sc.names.lookup x = some .cell) (hk : sc.kind = .function)
    (h : ∀ h' tk, Kb env s.heap h' → SS h₀ H env ((x, d) :: ρ) h' → Q () { s with heap := h', toks := tk }) : wpAny (model prog w) A (storeName env x v) Q E s := by
  have hk' : env.scope.kind = .function := by rw [G.scope]; exact hk
  have hxk : env.kindOf x = some .local ∨ env.kindOf x = some .cell := by rw [Env.kindOf, G.scope]; exact hx
  obtain ⟨m, hn, hv⟩ := S.loc
  have keepRd : ∀ {b : Addr} {h' : Heap}, Own env b → Heap.SameBut b s.heap h' → ∀ {u : Value} {e : PyData}, Rd H s.heap u e → Rd H h' u e := fun ob hs _ _ q =>
    q.imp fun a o ha e => ⟨ha, (hs.2 a (fun e' => ha (e' ▸ S.own _ ob))).trans e⟩
  have live : ∀ {b : Addr} {h' : Heap} , Heap.SameBut b s.heap h' → (∃ o, h'.get? b = some o) → ∀ a, H a → ∃ o, h'.get? a = some o := fun {b} {h'} hs ⟨o', e'⟩ a ha => by
    by_cases hab : a = b
    · subst hab; exact ⟨o', e'⟩
    · obtain ⟨o, e⟩ := S.live a ha; exact ⟨o, (hs.2 a hab).trans e⟩
  rcases hxk with hl | hc
  · refine wpAny_storeName_local hl hn (fun h' hn' hs => h h' _ (fun a o ha e => (hs.2 a (fun e' => ha (.inl e'))).trans e) ?_) (by rw [hk']; rfl)
    have oL : Own env env.locals := .inl rfl
    refine ⟨⟨fun a o e => (hs.2 a (fun e' => by rw [e', S.new _ oL] at e; cases e)).trans (S.base a o e), live hs (let ⟨o, _, _, e, _⟩ := hn'; ⟨o, e⟩), _, hn', fun y e he => ?_⟩, S.own,
      ⟨S.fro.apart, fun n c hm => ⟨let ⟨u, hu⟩ := (S.fro.cell n c hm).1; ⟨u, hu.sameBut hs (S.fro.cell n c hm).2⟩, (S.fro.cell n c hm).2⟩, S.fro.all⟩, S.new⟩
    by_cases hy : y = x
    · subst hy
      rw [lookup_cons_eq] at he
      cases he
      exact .inl ⟨hl, v, by simp, keepRd oL hs r⟩
    · rw [lookup_cons_ne hy] at he
      rcases hv y e he with ⟨kl, u, eu, ru⟩ | ⟨kc, c, u, ec, ic, ru⟩
      · exact .inl ⟨kl, u, by simpa [hy] using eu, keepRd oL hs ru⟩
      · exact .inr ⟨kc, c, u, ec, ic.sameBut hs (S.fro.cell y c (mem_of_lookup ec)).2, keepRd oL hs ru⟩
  · obtain ⟨c, ec⟩ := S.fro.all x hc
    obtain ⟨⟨v0, hc0⟩, hcL⟩ := S.fro.cell x c (mem_of_lookup ec)
    have oc : Own env c := .inr ⟨x, mem_of_lookup ec⟩
    refine wpAny_storeName_cell hk' hc ec hc0 fun h' hv' hs => h h' _ (fun a o ha e => (hs.2 a (fun e' => ha (e' ▸ oc))).trans e) ?_
    refine ⟨⟨fun a o e => (hs.2 a (fun e' => by rw [e', S.new _ oc] at e; cases e)).trans (S.base a o e), live hs (let ⟨o, e, _⟩ := hv'; ⟨o, e⟩), m, hn.sameBut hs (Ne.symm hcL), fun y e he => ?_⟩, S.own,
      ⟨S.fro.apart, fun n c' hm => ⟨?_, (S.fro.cell n c' hm).2⟩, S.fro.all⟩, S.new⟩
    · by_cases hy : y = x
      · subst hy
        rw [lookup_cons_eq] at he
        cases he
        exact .inr ⟨hc, c, v, ec, hv', keepRd oc hs r⟩
      · rw [lookup_cons_ne hy] at he
        rcases hv y e he with ⟨kl, u, eu, ru⟩ | ⟨kc, c', u, ec', ic, ru⟩
        · exact .inl ⟨kl, u, eu, keepRd oc hs ru⟩
        · refine .inr ⟨kc, c', u, ec', ic.sameBut hs (fun q => hy ?_), keepRd oc hs ru⟩
          exact name_of_addr S.fro.apart (mem_of_lookup ec') (q ▸ mem_of_lookup ec)
    · by_cases hcc : c' = c
      · subst hcc; exact ⟨_, hv'⟩
      · obtain ⟨u, hu⟩ := (S.fro.cell n c' hm).1; exact ⟨u, hu.sameBut hs hcc⟩

theorem Ex.store {x : Str} {p pos} {e : Expr} {d : PyData} (h : Ev prog w h₀ n sc ρ e d) (hx : sc.names.lookup x = some .local ∨ sc.names.lookup x = some .cell := by first | exact .inl rfl | exact .inr rfl)
    (hk : sc.kind = .function := by rfl) (hs : ∀ env, swapsWith e (some (.Name x p)) pos.line env = pure false := by intro _; rfl) : Ex prog w h₀ n sc ρ (.Assign [.Name x p] e pos) (.next ((x, d) :: ρ)) :=
  fun A env s H Q E R G S hQ => wpAny_Assign_Name (h A env s H _ E R G S.toSC fun v h' tk k r =>
    bind_wp (s := { s with heap := h', toks := tk }) G (S.keep k) r hx hk fun h'' tk' k' S' => hQ _ h'' tk' (k.kb.trans k') ⟨rfl, S'⟩) (hs env)

theorem Ex.aug {x : Str} {p pos} {e : Expr} {a b : Int} (hr : ρ.lookup x = some (.int a)) (h : Ev prog w h₀ n sc ρ e (.int b)) (hx : sc.names.lookup x = some .local ∨ sc.names.lookup x = some .cell := by first | exact .inl rfl | exact .inr rfl)
    (hk : sc.kind = .function := by rfl) (hd : (x == ("__debug__" : Str)) = false := by decide) : Ex prog w h₀ n sc ρ (.AugAssign (.Name x p) .Add e pos) (.next ((x, .int (a + b)) :: ρ)) :=
  fun A env s H Q E R G S hQ => by
    refine wpAny_AugAssign_Name ?_
    have go : ∀ v, Rd H s.heap v (.int a) → wpAny (model prog w) A (eval e env) (fun v_1 s₂ => wpAny (model prog w) A (inplaceOp .Add v v_1) (fun r s₃ => wpAny (model prog w) A (storeName env x r) (fun _ => Q .next) E s₃) E s₂) E s := fun v r =>
      h A env s H _ E R G S.toSC fun u h' tk k q => by
        obtain ⟨t, rfl⟩ := r.isInt
        obtain ⟨t', rfl⟩ := q.isInt
        refine PyProof.Rows.iadd_int ?_
        exact bind_wp (s := { s with heap := h', toks := tk + 1 }) G (S.keep k) (.int _ _) hx hk fun h'' tk' k' S' => hQ _ h'' tk' (k.kb.trans k') ⟨rfl, S'⟩
    have hk' : env.scope.kind = .function := by rw [G.scope]; exact hk
    obtain ⟨m, hn, hv⟩ := S.loc
    rcases hv x _ hr with ⟨kl, v, e', r⟩ | ⟨kl, c, v, e', ic, r⟩
    · exact wpAny_loadName_local hk' kl hn e' (go v r)
    · exact wpAny_loadName_cell hk' kl e' ic (go v r)

/-- two names bound to a pair's parts -/
theorem Ex.store2 {x y : Str} {p q tp pos} {kk : Nat} {e : Expr} {d c : PyData} (h : Ev prog w h₀ n sc ρ e (.tuple [d, c])) (hx : sc.names.lookup x = some .local := by rfl) (hy : sc.names.lookup y = some .local := by rfl)
    (hk : sc.kind = .function := by rfl) (hs : ∀ env, swappedStores [Expr.Tuple [Expr.Name x p, Expr.Name y q] kk tp] e env = pure Option.none := by intro _; rfl) (hw : ∀ env, swapsWithSole [Expr.Tuple [Expr.Name x p, Expr.Name y q] kk tp] e pos.line env = pure false := by intro _; rfl) :
    Ex prog w h₀ n sc ρ (.Assign [Expr.Tuple [Expr.Name x p, Expr.Name y q] kk tp] e pos) (.next ((y, c) :: (x, d) :: ρ)) := fun A env s H Q E R G S hQ => by
  refine PyProof.Rows.Assign_Tuple (h A env s H _ E R G S.toSC fun v h' tk k r => ?_) (hw env) (hs env)
  cases r with
  | @tuple a o vs cc xs ha ho hc hd q =>
    have hlen := q.length
    obtain ⟨vs⟩ := vs
    simp only at q hlen
    match vs, q, hlen, hd with
    | [v1, v2], q, _, hd =>
      cases q with
      | cons r1 q =>
        cases q with
        | cons r2 q =>
          refine (wpAny_assign_Tuple (items := #[v1, v2]) R.hh ⟨o, ho, hc, _, hd⟩ rfl rfl fun h₁ he₁ => ?_)
          have k1 : Kp h' h₁ := fun a o e => he₁ a o (Nat.ne_of_lt (Heap.lt_size e)) e
          have S1 := (S.keep k).keep k1
          show wpAny _ _ (assignInOrder [PySem.assign (.Name x _) env, PySem.assign (.Name y _) env] [v1, v2]) _ _ _
          refine assignInOrder_cons (wpAny_assign_Name (bind_wp (s := { s with heap := h₁, toks := tk }) G S1 (r1.keep k1) (.inl hx) hk fun h₂ tk₂ k₂ S2 => ?_))
          have r2' : Rd H h₂ v2 c := (r2.keep k1).imp fun a o ha e => ⟨ha, k₂ a o (fun oa => ha (S.own _ oa)) e⟩
          refine assignInOrder_cons (wpAny_assign_Name (bind_wp (s := { s with heap := h₂, toks := tk₂ }) G S2 r2' (.inl hy) hk fun h₃ tk₃ k₃ S3 => ?_))
          refine wpAny_pure ?_
          exact hQ _ h₃ tk₃ (((k.trans k1).kb.trans k₂).trans k₃) ⟨rfl, S3⟩

/-! # a def is entered -/

theorem lookup_cells {x : Str} : ∀ {names : List (Str × NameKind)} {k : Nat} {acc : List (Str × Addr)}, (names.lookup x = some .cell ∨ ∃ c, acc.lookup x = some c) → ∃ c, (cellsFrom k names acc).lookup x = some c
  | [], _, _, h => by
    rcases h with h | h
    · cases h
    · exact h
  | (y, kd) :: r, k, acc, h => by
    unfold cellsFrom
    by_cases hc : (kd == NameKind.cell) = true
    · rw [if_pos hc]
      refine lookup_cells ?_
      by_cases hxy : x = y
      · subst hxy; exact .inr ⟨k, by simp⟩
      · rcases h with h | ⟨c, h⟩
        · exact .inl (by rwa [List.lookup_cons, beq_eq_false_iff_ne.mpr hxy] at h)
        · exact .inr ⟨c, by rw [List.lookup_cons, beq_eq_false_iff_ne.mpr hxy]; exact h⟩
    · rw [if_neg hc]
      refine lookup_cells ?_
      rcases h with h | h
      · by_cases hxy : x = y
        · subst hxy
          simp only [List.lookup_cons, beq_self_eq_true, Option.some.injEq] at h
          subst h
          exact absurd rfl hc
        · exact .inl (by rwa [List.lookup_cons, beq_eq_false_iff_ne.mpr hxy] at h)
      · exact .inr h

theorem lookup_kinds {ps : List (Str × Value)} (f : Str → Option NameKind) (L0 : Str → Option Value) (hnd : (ps.map (·.1)).Nodup) :
    ∀ {x : Str} {v : Value}, (x, v) ∈ ps → (f x = some .local → bindL f ps L0 x = some v) ∧ (f x ≠ some .local → bindC f ps L0 x = some v) := by
  induction ps generalizing L0 with
  | nil => intro x v h; cases h
  | cons p ps ih =>
    obtain ⟨y, u⟩ := p
    intro x v h
    rw [List.map_cons, List.nodup_cons] at hnd
    have stable : ∀ (L : Str → Option Value), x ∉ ps.map (·.1) → bindL f ps L x = L x ∧ bindC f ps L x = L x := by
      clear ih h hnd
      induction ps with
      | nil => intro L _; exact ⟨rfl, rfl⟩
      | cons q ps ih2 =>
        obtain ⟨z, t⟩ := q
        intro L hx
        simp only [List.map_cons, List.mem_cons, not_or] at hx
        unfold bindL bindC
        constructor
        · rw [(ih2 _ hx.2).1]; split <;> simp [hx.1]
        · rw [(ih2 _ hx.2).2]; split <;> simp [hx.1]
    rcases List.mem_cons.mp h with e | h
    · cases e
      constructor
      · intro hl
        unfold bindL
        rw [(stable _ hnd.1).1, if_pos hl]; simp
      · intro hl
        unfold bindC
        rw [(stable _ hnd.1).2, if_neg hl]; simp
    · unfold bindL bindC
      exact ⟨fun hl => (ih _ hnd.2 h).1 hl, fun hl => (ih _ hnd.2 h).2 hl⟩

theorem zip_lookup {H : Addr → Prop} {h : Heap} {x : Str} {d : PyData} : ∀ {ps : List Str} {vs : List Value} {ds : List PyData}, RdAll H h vs ds → (ps.zip ds).lookup x = some d → ∃ v, (x, v) ∈ ps.zip vs ∧ Rd H h v d
  | [], _, _, _, e => by simp at e
  | p :: ps, _, _, .nil, e => by simp at e
  | p :: ps, _, _, .cons (v := v) r rs, e => by
    simp only [List.zip_cons_cons, List.lookup_cons] at e ⊢
    by_cases hx : x = p
    · subst hx
      simp only [beq_self_eq_true, Option.some.injEq] at e
      subst e
      exact ⟨v, List.mem_cons_self, r⟩
    · rw [beq_eq_false_iff_ne.mpr hx] at e
      obtain ⟨u, hu, ru⟩ := zip_lookup rs e
      exact ⟨u, List.mem_cons_of_mem _ hu, ru⟩

theorem Fn.intro {i : Nat} {ps : List Str} {ds : List PyData} {d : PyData} (X : Ground h₀ mg mb)
    (h : Exs prog w h₀ n (defAt i).scope (ps.zip ds) (defAt i).body (.ret d))
    (hb : ∀ pm cd doc (vs : List Value), vs.length = ds.length → bindArgs (Calls.docDef (defAt i).name (defAt i).params (defAt i).body (defAt i).scope pm cd doc) ⟨vs, []⟩ = pure (ps.zip vs))
    (hks : ∀ x ∈ ps, (defAt i).scope.names.lookup x = some .local ∨ (defAt i).scope.names.lookup x = some .cell)
    (hnd : ps.Nodup) (hlen : ps.length = ds.length) (hcn : ((cellsFrom 0 (defAt i).scope.names []).map (·.1)).Nodup)
    (h2 : 2 < i := by decide) (h31 : i < 31 := by decide) (h20 : i ≠ 20 := by decide)
    (hco : (defAt i).scope.isCoroutine = false := by rfl) (hgen : (defAt i).scope.isGenerator = false := by rfl) (hk : (defAt i).scope.kind = .function := by rfl) :
    Fn prog w h₀ mg (n + 1) i ds d := fun a ha A s H vs Q E R hb0 hlv hr hQ => by
  obtain ⟨a', o, pm, code, doc, hmg, ho, hdt, hcd⟩ := X.fn i h2 h31 h20
  rw [ha] at hmg
  cases hmg
  refine wpAny_call ?_
  have hvl : vs.length = ds.length := hr.length
  have hfst : (ps.zip vs).map (·.1) = ps := by
    rw [← List.unzip_fst, List.unzip_zip (by omega)]
  refine codeAny_call_cells (fd := Calls.docDef (defAt i).name (defAt i).params (defAt i).body (defAt i).scope pm code doc) (by have := R.dp; omega) (hb0 _ _ ho) hdt (X.nolimit.keeps hb0) (hcd.keeps hb0) rfl (hb pm code doc vs hvl) rfl
    (fun x hx => ?_) (fun s₁ x => ?_) hco hgen hk
  · have hx' : x.1 ∈ ps := hfst ▸ List.mem_map_of_mem hx
    rcases hks _ hx' with hl | hc
    · exact .inl hl
    · obtain ⟨c, ec⟩ := lookup_cells (k := s.heap.objs.size + 1) (acc := []) (.inl hc)
      exact .inr ⟨hc, by show ((cellsFrom (s.heap.objs.size + 1) (defAt i).scope.names []).lookup x.1).isSome = true; rw [ec]; rfl⟩
  · obtain ⟨h₁, tk₁, rfl⟩ := x.toInCall.same
    have keep : Kp s.heap h₁ := x.toInCall.keep
    generalize henv : callEnvC (Calls.docDef (defAt i).name (defAt i).params (defAt i).body (defAt i).scope pm code doc) s.heap.objs.size a = env at x ⊢
    have hscope : env.scope = (defAt i).scope := by rw [← henv]; rfl
    have hL : env.locals = s.heap.objs.size := by rw [← henv]; rfl
    have hcells : env.cells = cellsFrom (s.heap.objs.size + 1) (defAt i).scope.names [] := by rw [← henv]; rfl
    have G : EnvG (defAt i).scope env := ⟨hscope, by rw [← henv]; rfl, by rw [← henv]; rfl⟩
    have hnew : ∀ b, Own env b → s.heap.get? b = Option.none := fun b ob => by
      refine Heap.get?_none_of_le ?_
      rcases ob with e | ⟨y, hy⟩
      · rw [e, hL]; exact Nat.le_refl _
      · exact Nat.le_of_lt (hL ▸ x.above y b hy)
    have hmem : ∀ y b, (y, b) ∈ env.cells → env.cells.lookup y = some b := fun y b hy => by
      rw [hcells] at hy ⊢
      exact lookup_of_mem_nodup (cellsFrom_names (defAt i).scope.names 0 (s.heap.objs.size + 1) [] [] rfl ▸ hcn) hy
    have hlv1 : ∀ b, Own env b → ∃ o, h₁.get? b = some o := fun b ob => by
      rcases ob with e | ⟨y, hy⟩
      · obtain ⟨o, _, _, e', _⟩ := x.toInCall.ns; exact ⟨o, e ▸ e'⟩
      · obtain ⟨o, e, _⟩ := x.cell y b (hmem y b hy)
        exact ⟨o, e⟩
    have hkd : ∀ y, env.kindOf y = (defAt i).scope.names.lookup y := fun y => by rw [Env.kindOf, hscope]
    have rdup : ∀ {u : Value} {e : PyData}, Rd H s.heap u e → Rd (fun b => H b ∨ Own env b) h₁ u e := fun q => q.imp fun b o hb e =>
      ⟨fun z => z.elim hb (fun ob => by have e' := e; rw [hnew b ob] at e'; cases e'), keep b o e⟩
    have SS0 : SS h₀ (fun b => H b ∨ Own env b) env (ps.zip ds) h₁ := by
      refine ⟨⟨hb0.trans keep, fun b hb => hb.elim (fun z => let ⟨o, e⟩ := hlv b z; ⟨o, keep _ _ e⟩) (hlv1 b), _, x.toInCall.ns, fun y e he => ?_⟩, fun b ob => .inr ob,
        ⟨x.apart, fun y b hy => ⟨⟨_, x.cell y b (hmem y b hy)⟩, Nat.ne_of_gt (x.above y b hy)⟩, fun y hy => ?_⟩, fun b ob => ?_⟩
      · obtain ⟨v, hv, rv⟩ := zip_lookup hr he
        have hy : y ∈ ps := hfst ▸ List.mem_map_of_mem (f := Prod.fst) hv
        have hnd' : ((ps.zip vs).map (·.1)).Nodup := by rw [hfst]; exact hnd
        have lk := lookup_kinds (ps := ps.zip vs) env.kindOf (fun _ => Option.none) hnd' hv
        rcases hks y hy with hl | hc
        · exact .inl ⟨by rw [hkd]; exact hl, v, lk.1 (by rw [hkd]; exact hl), rdup rv⟩
        · have hc' : env.kindOf y = some .cell := by rw [hkd]; exact hc
          obtain ⟨c, ec⟩ := lookup_cells (k := s.heap.objs.size + 1) (acc := []) (.inl hc)
          rw [← hcells] at ec
          have hnl : env.kindOf y ≠ some .local := by rw [hc']; decide
          exact .inr ⟨hc', c, v, ec, by have := x.cell y c ec; rw [lk.2 hnl] at this; exact this, rdup rv⟩
      · rw [hkd] at hy
        rw [hcells]
        exact lookup_cells (.inl hy)
      · cases e : h₀.get? b with
        | none => rfl
        | some o => have := hb0 _ _ e; rw [hnew b ob] at this; cases this
    refine h _ env _ _ _ _ (R.deeper env) G SS0 fun f h' tk k ho => ?_
    obtain ⟨v, rfl, rv⟩ := ho
    exact hQ v h' tk (fun b o e => k b o (fun ob => by rw [hnew b ob] at e; cases e) (keep b o e)) (rv.imp fun b o hb e => ⟨fun z => hb (.inl z), e⟩)
end
end Mine

namespace Mine

section
variable {prog : Program} {w : World} {h₀ : Heap} {mg mb : Str → Option Value} {n : Nat} {sc : Scope} {ρ : Rho}

/-! # a for over a list -/

inductive Forr (prog : Program) (w : World) (h₀ : Heap) (n : Nat) (sc : Scope) (x : Str) (body : List Stmt) : Rho → List PyData → Out → Prop
  | nil {r : Rho} : Forr prog w h₀ n sc x body r [] (.next r)
  | next {r r' : Rho} {d : PyData} {ds : List PyData} {o : Out} : Exs prog w h₀ n sc ((x, d) :: r) body (.next r') → Forr prog w h₀ n sc x body r' ds o → Forr prog w h₀ n sc x body r (d :: ds) o
  | ret {r : Rho} {d e : PyData} {ds : List PyData} : Exs prog w h₀ n sc ((x, d) :: r) body (.ret e) → Forr prog w h₀ n sc x body r (d :: ds) (.ret e)

theorem SS.hide {H H' : Addr → Prop} {env : Env} {h : Heap} (S : SS h₀ H env ρ h) (hs : ∀ a, H a → H' a) (hl : ∀ a, H' a → ∃ o, h.get? a = some o)
    (hr : ∀ v d, Rd H h v d → Rd H' h v d) : SS h₀ H' env ρ h := by
  refine ⟨⟨S.base, hl, ?_⟩, fun a o => hs a (S.own a o), S.fro, S.new⟩
  obtain ⟨m, hn, hv⟩ := S.loc
  refine ⟨m, hn, fun x d e => ?_⟩
  rcases hv x d e with ⟨k, v, a, r⟩ | ⟨k, c, v, a, b, r⟩
  · exact .inl ⟨k, v, a, hr _ _ r⟩
  · exact .inr ⟨k, c, v, a, b, hr _ _ r⟩
theorem SS.unhide {H H' : Addr → Prop} {env : Env} {h : Heap} (S : SS h₀ H' env ρ h) (hs : ∀ a, H a → H' a) (ho : ∀ a, Own env a → H a) : SS h₀ H env ρ h := by
  refine ⟨⟨S.base, fun a ha => S.live a (hs a ha), ?_⟩, ho, S.fro, S.new⟩
  obtain ⟨m, hn, hv⟩ := S.loc
  refine ⟨m, hn, fun x d e => ?_⟩
  have hr : ∀ v d, Rd H' h v d → Rd H h v d := fun v d r => r.imp fun a o ha e => ⟨fun z => ha (hs a z), e⟩
  rcases hv x d e with ⟨k, v, a, r⟩ | ⟨k, c, v, a, b, r⟩
  · exact .inl ⟨k, v, a, hr _ _ r⟩
  · exact .inr ⟨k, c, v, a, b, hr _ _ r⟩

theorem SS.step {H HT : Addr → Prop} {env : Env} {h h' : Heap} {I : Addr} (S : SS h₀ H env ρ h) (hx : Heap.ExtBut I h h') (hI : H I) (hO : ¬ Own env I) (hb : h₀.get? I = Option.none)
    (hsub : ∀ a, HT a → H a) (hown : ∀ a, Own env a → HT a) (hl : ∀ a, HT a → ∃ o, h'.get? a = some o) : SS h₀ HT env ρ h' := by
  have hr : ∀ v d, Rd H h v d → Rd HT h' v d := fun v d r => r.imp fun a o ha e => ⟨fun z => ha (hsub a z), hx a o (fun z => ha (z ▸ hI)) e⟩
  refine ⟨⟨fun a o e => hx a o (fun z => by rw [z, hb] at e; cases e) (S.base a o e), hl, ?_⟩, hown, ⟨S.fro.apart, fun y c hm => ⟨?_, (S.fro.cell y c hm).2⟩, S.fro.all⟩, S.new⟩
  · obtain ⟨m, hn, hv⟩ := S.loc
    refine ⟨m, hn.extBut hx (fun z => hO (.inl z.symm)), fun x d e => ?_⟩
    rcases hv x d e with ⟨k, v, a, r⟩ | ⟨k, c, v, a, b, r⟩
    · exact .inl ⟨k, v, a, hr _ _ r⟩
    · obtain ⟨o, eo, ed⟩ := b
      exact .inr ⟨k, c, v, a, ⟨o, hx c o (fun z => hO (.inr ⟨x, z ▸ mem_of_lookup a⟩)) eo, ed⟩, hr _ _ r⟩
  · obtain ⟨u, o, eo, ed⟩ := (S.fro.cell y c hm).1
    exact ⟨u, o, hx c o (fun z => hO (.inr ⟨y, z ▸ hm⟩)) eo, ed⟩

theorem Ex.forL {x : Str} {p pos} {iter : Expr} {body : List Stmt} {ds : List PyData} {o : Out} (h : Ev prog w h₀ n sc ρ iter (.list ds)) (hf : Forr prog w h₀ n sc x body ρ ds o)
    (hx : sc.names.lookup x = some .local ∨ sc.names.lookup x = some .cell := by first | exact .inl rfl | exact .inr rfl) (hk : sc.kind = .function := by rfl)
    (hs : ∀ env x, foldedSetIterable iter env x = pure x := by intro _ _; rfl) :
    Ex prog w h₀ n sc ρ (.For (.Name x p) iter body [] pos) o := fun A env s H Q E R G S hQ => by
  refine wpAny_For (h A env s H _ E R G S.toSC fun v h₁ t₁ k₁ r₁ => ?_) (hs env)
  obtain ⟨l, vs, rfl, hnl, hl, q⟩ := r₁.isList
  refine wpAny_pyIter_list (s := { s with heap := h₁, toks := t₁ }) hl ?_
  -- the iterator's place
  generalize hI : h₁.objs.size = I
  have hIn : h₁.get? I = Option.none := hI ▸ get?_size h₁
  have S1 := S.keep k₁
  have hHI : ¬ H I := S1.toSC.new hIn
  have hlI : l ≠ I := fun e => by obtain ⟨o', e', _⟩ := hl; rw [e, hIn] at e'; cases e'
  have hOI : ¬ Own env I := fun z => hHI (S.own _ z)
  have hOl : ¬ Own env l := fun z => hnl (S.own _ z)
  show codeAny (model prog w) A _ _ { s with heap := h₁.push { cls := .type "list_iterator", data := .fields #[.ref l, .int 0 0] }, toks := t₁ }
  generalize hh₂ : h₁.push { cls := .type "list_iterator", data := .fields #[.ref l, .int 0 0] } = h₂
  have k₂ : Kp h₁ h₂ := hh₂ ▸ Kp.push _ _
  have hit₂ : h₂.IsListIter I l 0 := ⟨_, by rw [← hh₂, ← hI]; exact Heap.get?_push_size _ rfl, rfl, rfl⟩
  have hr : ∀ v d, Rd H h₁ v d → Rd (fun a => H a ∨ a = I) h₂ v d := fun v d r => r.imp fun a o ha e =>
    ⟨fun z => z.elim ha (fun e' => by have e2 := e; rw [e', hIn] at e2; cases e2), k₂ _ _ e⟩
  have hlv : ∀ a, (fun a => H a ∨ a = I) a → ∃ o, h₂.get? a = some o := fun a ha => by
    rcases ha with ha | rfl
    · obtain ⟨o, e⟩ := S1.live a ha; exact ⟨o, k₂ _ _ e⟩
    · obtain ⟨o, e, _⟩ := hit₂; exact ⟨o, e⟩
  have S2 : SS h₀ (fun a => H a ∨ a = I) env ρ h₂ := by
    refine ⟨⟨S1.base.trans k₂, hlv, ?_⟩, fun a o => .inl (S.own a o), S1.fro.keep k₂, S.new⟩
    obtain ⟨m, hn, hv⟩ := S1.loc
    refine ⟨m, hn.keeps k₂, fun x d e => ?_⟩
    rcases hv x d e with ⟨k, v, a, r⟩ | ⟨k, c, v, a, b, r⟩
    · exact .inl ⟨k, v, a, hr _ _ r⟩
    · exact .inr ⟨k, c, v, a, b.keeps k₂, hr _ _ r⟩
  have q2 : RdAll (fun a => H a ∨ a = I) h₂ vs ds := q.imp fun a o ha e =>
    ⟨fun z => z.elim ha (fun e' => by have e2 := e; rw [e', hIn] at e2; cases e2), k₂ _ _ e⟩
  have hl2 : h₂.IsList l vs.toArray := let ⟨o, ho, z⟩ := hl; ⟨o, k₂ _ _ ho, z⟩
  -- the way back
  have back : ∀ f h' tk, Kb env h₁ h' → OutIs h₀ (fun a => H a ∨ a = I) env o f h' → Q f { s with heap := h', toks := tk } := fun f h' tk k ho => by
    refine hQ f h' tk (fun a o na e => k a o na (k₁ _ _ e)) ?_
    cases o with
    | next ρ' => exact ⟨ho.1, ho.2.unhide (fun a z => .inl z) S.own⟩
    | ret d => obtain ⟨v, e, r⟩ := ho; exact ⟨v, e, r.imp fun a o ha e => ⟨fun z => ha (.inl z), e⟩⟩
  refine codeAny_forLoop (fun k s' => ∃ (h' : Heap) (tk : Nat) (j : Nat) (ρj : Rho), s' = { s with heap := h', toks := tk } ∧ k = ds.length + 1 - j ∧ j ≤ ds.length ∧ SS h₀ (fun a => H a ∨ a = I) env ρj h' ∧ h'.IsListIter I l j ∧
      h'.IsList l vs.toArray ∧ RdAll (fun a => H a ∨ a = I) h' vs ds ∧ Kb env h₁ h' ∧ Forr prog w h₀ n sc x body ρj (ds.drop j) o) ?_ (ds.length + 1)
    ⟨h₂, t₁, 0, ρ, rfl, by omega, Nat.zero_le _, S2, hit₂, hl2, q2, k₂.kb, by simpa using hf⟩
  rintro k s' ⟨h', tk, j, ρj, rfl, rfl, hj, Sj, hit, hlj, qj, kj, fj⟩
  have hbI : h₀.get? I = Option.none := by
    cases e : h₀.get? I with
    | none => rfl
    | some o => have := k₁ _ _ (S.base _ _ e); rw [hIn] at this; cases this
  by_cases hlt : j < ds.length
  · obtain ⟨v, hv, rv⟩ := qj.get (List.getElem?_eq_getElem hlt)
    refine wpAny_pyNext_list_item (s := { s with heap := h', toks := tk }) hit hlj (by simpa using hv) fun h'' hit'' hs'' => ?_
    have hx'' := hs''.extBut
    have S'' : SS h₀ (fun a => H a ∨ a = I) env ρj h'' := Sj.step (HT := fun a => H a ∨ a = I) hx'' (.inr rfl) hOI hbI (fun _ z => z) Sj.own fun a ha => by
      by_cases hab : a = I
      · subst hab; obtain ⟨o, e, _⟩ := hit''; exact ⟨o, e⟩
      · obtain ⟨o, e⟩ := Sj.live a ha; exact ⟨o, hx'' a o hab e⟩
    have hrd : ∀ {u d}, Rd (fun a => H a ∨ a = I) h' u d → Rd (fun a => H a ∨ a = I) h'' u d := fun r => r.imp fun a o ha e => ⟨ha, hx'' a o (fun z => ha (.inr z)) e⟩
    have qj'' : RdAll (fun a => H a ∨ a = I) h'' vs ds := qj.imp fun a o ha e => ⟨ha, hx'' a o (fun z => ha (.inr z)) e⟩
    have hl'' := hlj.extBut hx'' hlI
    have kj'' : Kb env h₁ h'' := fun a o na e => hx'' a o (fun z => by have e2 := e; rw [z, hIn] at e2; cases e2) (kj a o na e)
    have hdrop : ds.drop j = ds[j] :: ds.drop (j + 1) := List.drop_eq_getElem_cons hlt
    rw [hdrop] at fj
    refine wpAny_assign_Name (bind_wp (s := { s with heap := h'', toks := tk }) G S'' (hrd rv) hx hk fun h3 tk3 k3 S3 => ?_)
    have hit3 : h3.IsListIter I l (j + 1) := let ⟨o, e, z⟩ := hit''; ⟨o, k3 _ _ hOI e, z⟩
    have hl3 : h3.IsList l vs.toArray := let ⟨o, e, z⟩ := hl''; ⟨o, k3 _ _ hOl e, z⟩
    have q3 : RdAll (fun a => H a ∨ a = I) h3 vs ds := qj''.imp fun a o ha e => ⟨ha, k3 a o (fun z => ha (.inl (S.own _ z))) e⟩
    cases fj with
    | next hb hf' =>
      refine hb A env _ (fun a => H a ∨ a = I) _ _ R G S3 fun f h4 tk4 k4 ho => ?_
      obtain ⟨rfl, S4⟩ := ho
      exact ⟨ds.length + 1 - (j + 1), by omega, h4, tk4, j + 1, _, rfl, rfl, hlt, S4, let ⟨o, e, z⟩ := hit3; ⟨o, k4 _ _ hOI e, z⟩, let ⟨o, e, z⟩ := hl3; ⟨o, k4 _ _ hOl e, z⟩,
        q3.imp fun a o ha e => ⟨ha, k4 a o (fun z => ha (.inl (S.own _ z))) e⟩, (kj''.trans k3).trans k4, hf'⟩
    | ret hb =>
      refine hb A env _ (fun a => H a ∨ a = I) _ _ R G S3 fun f h4 tk4 k4 ho => ?_
      obtain ⟨v', rfl, r4⟩ := ho
      exact back _ h4 tk4 ((kj''.trans k3).trans k4) ⟨v', rfl, r4⟩
  · have hje : j = ds.length := by omega
    subst hje
    rw [List.drop_length] at fj
    cases fj
    refine wpAny_pyNext_list_end (s := { s with heap := h', toks := tk }) R.hh hit hlj (by simp [q.length]) fun h'' hx'' => ?_
    refine wpAny_execs_nil ?_
    refine hQ _ h'' tk (fun a o na e => ?_) ⟨rfl, ?_⟩
    · have e1 := k₁ _ _ e
      exact hx'' a o (fun z => by rw [z, hIn] at e1; cases e1) (kj a o na e1)
    · refine Sj.step (HT := H) hx'' (.inr rfl) hOI hbI (fun _ z => .inl z) S.own fun a ha => ?_
      obtain ⟨o, e⟩ := Sj.live a (.inl ha)
      exact ⟨o, hx'' a o (fun z => hHI (z ▸ ha)) e⟩
end
end Mine

namespace Mine

/-! # comprehensions -/

inductive Bnd (sc : Scope) : Expr → PyData → Rho → Rho → Prop
  | name {x : Str} {p : Pos} {d : PyData} {r : Rho} : sc.names.lookup x = some .local → r.lookup x = none → Bnd sc (.Name x p) d r ((x, d) :: r)
  | pair {x y : Str} {p q tp : Pos} {kk : Nat} {c d : PyData} {r : Rho} : sc.names.lookup x = some .local → sc.names.lookup y = some .local → r.lookup x = none → r.lookup y = none →
      Bnd sc (.Tuple [.Name x p, .Name y q] kk tp) (.tuple [c, d]) r ((y, d) :: (x, c) :: r)

inductive Tsts (T : Expr → Bool → Prop) : List Expr → Bool → Prop
  | nil : Tsts T [] true
  | one {e : Expr} {b : Bool} : T e b → Tsts T [e] b

inductive Cmp (prog : Program) (w : World) (h₀ : Heap) (n : Nat) (sc : Scope) (elt : Expr) : List Comprehension → Rho → List PyData → List PyData → Prop
  | nil {gs : List Comprehension} {r : Rho} {t i : Expr} {fs : List Expr} : Cmp prog w h₀ n sc elt (⟨t, i, fs, 0⟩ :: gs) r [] []
  | skip {gs : List Comprehension} {r r' : Rho} {t i : Expr} {fs : List Expr} {d : PyData} {ds out : List PyData} : Bnd sc t d r r' → Tsts (Te prog w h₀ n sc r') fs false →
      Cmp prog w h₀ n sc elt (⟨t, i, fs, 0⟩ :: gs) r ds out → Cmp prog w h₀ n sc elt (⟨t, i, fs, 0⟩ :: gs) r (d :: ds) out
  | one {r r' : Rho} {t i : Expr} {fs : List Expr} {d e : PyData} {ds out : List PyData} : Bnd sc t d r r' → Tsts (Te prog w h₀ n sc r') fs true → Ev prog w h₀ n sc r' elt e →
      Cmp prog w h₀ n sc elt [⟨t, i, fs, 0⟩] r ds out → Cmp prog w h₀ n sc elt [⟨t, i, fs, 0⟩] r (d :: ds) (e :: out)
  | deep {gs : List Comprehension} {r r' : Rho} {t i t' i' : Expr} {fs fs' : List Expr} {d : PyData} {ds ds' out out' : List PyData} : Bnd sc t d r r' → Tsts (Te prog w h₀ n sc r') fs true → Ev prog w h₀ n sc r' i' (.list ds') →
      (∀ env x, foldedSetIterable i' env x = pure x) →
      Cmp prog w h₀ n sc elt (⟨t', i', fs', 0⟩ :: gs) r' ds' out' → Cmp prog w h₀ n sc elt (⟨t, i, fs, 0⟩ :: ⟨t', i', fs', 0⟩ :: gs) r ds out → Cmp prog w h₀ n sc elt (⟨t, i, fs, 0⟩ :: ⟨t', i', fs', 0⟩ :: gs) r (d :: ds) (out' ++ out)

/-- all stands but the three -/
def Kc (C D I : Addr) (h h' : Heap) : Prop := ∀ a o, a ≠ C → a ≠ D → a ≠ I → h.get? a = some o → h'.get? a = some o
theorem Kc.refl (C D I : Addr) (h : Heap) : Kc C D I h h := fun _ _ _ _ _ e => e
theorem Kc.trans {C D I : Addr} {a b c : Heap} (x : Kc C D I a b) (y : Kc C D I b c) : Kc C D I a c := fun _ _ h1 h2 h3 e => y _ _ h1 h2 h3 (x _ _ h1 h2 h3 e)
theorem Kp.kc {C D I : Addr} {h h' : Heap} (k : Kp h h') : Kc C D I h h' := fun _ _ _ _ _ e => k _ _ e

/-- the state at a comprehension's loop -/
structure CS (h₀ : Heap) (H : Addr → Prop) (env : Env) (ρ : Rho) (D I l : Addr) (acc vs : List Value) (j : Nat) (ds : List PyData) (h : Heap) : Prop extends SC h₀ H env ρ h where
  hC : H env.locals
  hD : H D
  hI : H I
  dc : D ≠ env.locals
  ic : I ≠ env.locals
  id : I ≠ D
  bC : h₀.get? env.locals = none
  bD : h₀.get? D = none
  bI : h₀.get? I = none
  acc : h.IsList D acc.toArray
  it : h.IsListIter I l j
  lst : h.IsList l vs.toArray
  hl : ¬ H l
  items : RdAll H h (vs.drop j) ds

theorem isListIter_keep {h h' : Heap} {I l : Addr} {j : Nat} (x : h.IsListIter I l j) (k : ∀ o, h.get? I = some o → h'.get? I = some o) : h'.IsListIter I l j := let ⟨o, e, z⟩ := x; ⟨o, k _ e, z⟩
theorem isList_keep {h h' : Heap} {l : Addr} {vs : Array Value} (x : h.IsList l vs) (k : ∀ o, h.get? l = some o → h'.get? l = some o) : h'.IsList l vs := let ⟨o, e, z⟩ := x; ⟨o, k _ e, z⟩

section
variable {prog : Program} {w : World} {h₀ : Heap} {mg mb : Str → Option Value} {n : Nat} {sc : Scope} {ρ : Rho}

theorem Loc.but {H : Addr → Prop} {h h' : Heap} {env : Env} {C : Addr} (L : Loc H h env ρ) (hC : H C) (hcc : ∀ x c, env.cells.lookup x = some c → c ≠ C) (hne : C ≠ env.locals) (hx : Heap.ExtBut C h h') : Loc H h' env ρ := by
  obtain ⟨m, hn, hv⟩ := L
  have hr : ∀ v d, Rd H h v d → Rd H h' v d := fun v d r => r.imp fun a o ha e => ⟨ha, hx a o (fun z => ha (z ▸ hC)) e⟩
  refine ⟨m, hn.extBut hx (Ne.symm hne), fun x d e => ?_⟩
  rcases hv x d e with ⟨k, v, a, r⟩ | ⟨k, c, v, a, ⟨o, eo, ed⟩, r⟩
  · exact .inl ⟨k, v, a, hr _ _ r⟩
  · exact .inr ⟨k, c, v, a, ⟨o, hx c o (hcc x c a) eo, ed⟩, hr _ _ r⟩

theorem cell_ne_ns {h : Heap} {c C : Addr} {v : Option Value} {m : Str → Option Value} (hc : h.IsCell c v) (hn : h.Ns C m) : c ≠ C := fun e => by
  obtain ⟨o, eo, ed⟩ := hc
  obtain ⟨o', es, ep, eo', ed', _⟩ := hn
  rw [e, eo'] at eo
  cases eo
  rw [ed'] at ed
  cases ed

/-- one name of the comprehension's own is bound -/
theorem cbind_wp {x : Str} {v : Value} {d : PyData} {A : Around} {env : Env} {s : Shared} {H : Addr → Prop} {D I l : Addr} {acc vs : List Value} {j : Nat} {ds : List PyData} {Q : Unit → Shared → Prop} {E : Value → Shared → Prop}
    (G : EnvG sc env) (S : CS h₀ H env ρ D I l acc vs j ds s.heap) (r : Rd H s.heap v d) (hx : sc.names.lookup x = some .local) (hk : sc.kind = .function)
    (h : ∀ h' tk, (∀ a o, a ≠ env.locals → s.heap.get? a = some o → h'.get? a = some o) → CS h₀ H env ((x, d) :: ρ) D I l acc vs j ds h' → Q () { s with heap := h', toks := tk }) : wpAny (model prog w) A (storeName env x v) Q E s := by
  have hk' : env.scope.kind = .function := by rw [G.scope]; exact hk
  have hl : env.kindOf x = some .local := by rw [Env.kindOf, G.scope]; exact hx
  obtain ⟨m, hn, hv⟩ := S.loc
  refine wpAny_storeName_local hl hn (fun h' hn' hs => ?_) (by rw [hk']; rfl)
  have up : ∀ a o, a ≠ env.locals → s.heap.get? a = some o → h'.get? a = some o := fun a o ha e => (hs.2 a ha).trans e
  have hr : ∀ {u e}, Rd H s.heap u e → Rd H h' u e := fun q => q.imp fun a o ha e => ⟨ha, up a o (fun z => ha (z ▸ S.hC)) e⟩
  refine h h' _ up ⟨⟨fun a o e => up a o (fun z => by rw [z, S.bC] at e; cases e) (S.base a o e), fun a ha => ?_, _, hn', fun y e he => ?_⟩, S.hC, S.hD, S.hI, S.dc, S.ic, S.id, S.bC, S.bD, S.bI,
    isList_keep S.acc fun o => up D o S.dc, isListIter_keep S.it fun o => up I o S.ic, isList_keep S.lst fun o => up l o (fun z => S.hl (z ▸ S.hC)), S.hl,
    S.items.imp fun a o ha e => ⟨ha, up a o (fun z => ha (z ▸ S.hC)) e⟩⟩
  · by_cases hac : a = env.locals
    · subst hac; obtain ⟨o, _, _, e, _⟩ := hn'; exact ⟨o, e⟩
    · obtain ⟨o, e⟩ := S.live a ha; exact ⟨o, up a o hac e⟩
  · by_cases hy : y = x
    · subst hy
      rw [lookup_cons_eq] at he
      cases he
      exact .inl ⟨hl, v, by simp, hr r⟩
    · rw [lookup_cons_ne hy] at he
      rcases hv y e he with ⟨kl, u, eu, ru⟩ | ⟨kc, c, u, ec, ic, ru⟩
      · exact .inl ⟨kl, u, by simpa [hy] using eu, hr ru⟩
      · exact .inr ⟨kc, c, u, ec, ic.sameBut hs (cell_ne_ns ic hn), hr ru⟩

theorem CS.keep {H : Addr → Prop} {env : Env} {D I l : Addr} {acc vs : List Value} {j : Nat} {ds : List PyData} {h h' : Heap} (S : CS h₀ H env ρ D I l acc vs j ds h) (k : Kp h h') : CS h₀ H env ρ D I l acc vs j ds h' :=
  ⟨S.toSC.keep k, S.hC, S.hD, S.hI, S.dc, S.ic, S.id, S.bC, S.bD, S.bI, isList_keep S.acc fun o => k _ o, isListIter_keep S.it fun o => k _ o, isList_keep S.lst fun o => k _ o, S.hl, S.items.keep k⟩

theorem Loc.fewer {H : Addr → Prop} {h : Heap} {env : Env} {x : Str} {d : PyData} (L : Loc H h env ((x, d) :: ρ)) (hx : ρ.lookup x = none) : Loc H h env ρ := by
  obtain ⟨m, hn, hv⟩ := L
  refine ⟨m, hn, fun y e he => hv y e ?_⟩
  rw [lookup_cons_ne (fun z => by rw [z, hx] at he; cases he)]
  exact he

theorem go_wp {elts : List Expr} {kk : Nat} {tp : Pos} {I l a : Addr} {j : Nat} {A : Around} {s : Shared} {Q : Unit → Shared → Prop} {E : Value → Shared → Prop} (hit : s.heap.IsListIter I l j) (h : Q () s) :
    wpAny (model prog w) A (letOwnedTupleGo (.Tuple elts kk tp) (.ref I) (.ref a)) Q E s := by
  obtain ⟨o, ho, hc, hd⟩ := hit
  show wpAny (model prog w) A (load I >>= fun o => _) Q E s
  refine wpAny_bind (wpAny_load ho ?_)
  obtain ⟨cls, dct, data, sl⟩ := o
  simp only at hc hd
  subst hc hd
  show wpAny (model prog w) A (if (["enumerate", "zip", "dict_itemiterator", "dict_reverseitemiterator", "odict_iterator", "itertools.zip_longest", "itertools.pairwise"].contains "list_iterator" && _) = true then _ else _) Q E s
  rw [if_neg (by rw [show (["enumerate", "zip", "dict_itemiterator", "dict_reverseitemiterator", "odict_iterator", "itertools.zip_longest", "itertools.pairwise"] : List String).contains "list_iterator" = false from by decide]; simp)]
  exact wpAny_pure h

/-- the target of a comprehension is bound -/
theorem bnd_wp {β : Type} {t : Expr} {v : Value} {d : PyData} {ρ' : Rho} {A : Around} {env : Env} {s : Shared} {H : Addr → Prop} {D I l : Addr} {acc vs : List Value} {j : Nat} {ds : List PyData} {rest : Unit → Sem β} {Q : β → Shared → Prop} {E : Value → Shared → Prop}
    (hh : A.handled = none) (G : EnvG sc env) (S : CS h₀ H env ρ D I l acc vs j ds s.heap) (r : Rd H s.heap v d) (b : Bnd sc t d ρ ρ') (hk : sc.kind = .function)
    (h : ∀ h' tk, (∀ a o, a ≠ env.locals → s.heap.get? a = some o → h'.get? a = some o) → CS h₀ H env ρ' D I l acc vs j ds h' → (∀ h'', Loc H h'' env ρ' → Loc H h'' env ρ) → wpAny (model prog w) A (rest ()) Q E { s with heap := h', toks := tk }) :
    wpAny (model prog w) A (letOwnedTupleGo t (.ref I) v >>= fun _ => PySem.assign t env v >>= rest) Q E s := by
  cases b with
  | name hx hn =>
    refine wpAny_bind (wpAny_pure (wpAny_bind ?_))
    exact wpAny_assign_Name (cbind_wp G S r hx hk fun h' tk k S' => h h' tk k S' fun h'' L => L.fewer hn)
  | @pair x y p q tp kk c d _ hx hy hnx hny =>
    cases r with
    | @tuple a o vs' cc xs ha ho hc hd q =>
      have hlen := q.length
      obtain ⟨vs'⟩ := vs'
      simp only at q hlen
      match vs', q, hlen, hd with
      | [v1, v2], q, _, hd =>
        cases q with
        | cons r1 q =>
          cases q with
          | cons r2 q =>
            refine wpAny_bind (go_wp S.it (wpAny_bind ?_))
            refine wpAny_assign_Tuple (items := #[v1, v2]) hh ⟨o, ho, hc, _, hd⟩ rfl rfl fun h₁ he₁ => ?_
            have k1 : Kp s.heap h₁ := fun a o e => he₁ a o (Nat.ne_of_lt (Heap.lt_size e)) e
            have S1 := S.keep k1
            show wpAny _ _ (assignInOrder [PySem.assign (.Name x _) env, PySem.assign (.Name y _) env] [v1, v2]) _ _ _
            refine assignInOrder_cons (wpAny_assign_Name (cbind_wp (s := { s with heap := h₁ }) G S1 (r1.keep k1) hx hk fun h₂ tk₂ k₂ S2 => ?_))
            have r2' : Rd H h₂ v2 d := (r2.keep k1).imp fun a o ha e => ⟨ha, k₂ a o (fun z => ha (z ▸ S.hC)) e⟩
            refine assignInOrder_cons (wpAny_assign_Name (cbind_wp (s := { s with heap := h₂, toks := tk₂ }) G S2 r2' hy hk fun h₃ tk₃ k₃ S3 => ?_))
            refine wpAny_pure ?_
            refine h h₃ tk₃ (fun a o ha e => k₃ a o ha (k₂ a o ha (k1 _ _ e))) S3 fun h'' L => ?_
            by_cases hxy : y = x
            · subst hxy
              obtain ⟨m, hn, hv⟩ := L
              refine ⟨m, hn, fun z e he => hv z e ?_⟩
              have hz : z ≠ y := fun q => by rw [q, hnx] at he; cases he
              rw [lookup_cons_ne hz, lookup_cons_ne hz]; exact he
            · exact (L.fewer (by rw [lookup_cons_ne hxy]; exact hny)).fewer hnx
end
end Mine

namespace Mine

section
variable {prog : Program} {w : World} {h₀ : Heap} {mg mb : Str → Option Value} {n : Nat} {sc : Scope} {ρ : Rho}

theorem compTurn_at {gensF : List Comprehension} {k : Nat} {t i : Expr} {fs : List Expr} (hg : gensF[k]? = some ⟨t, i, fs, 0⟩) (elt : Expr) (scope : Scope) (pos : Pos) (it acc : Value) (env : Env) :
    compTurn (.ListComp elt gensF scope pos) k it acc env = (do
      standAt i.pos
      match ← pyNext it with
      | none => pure (.done .next)
      | some v =>
        letOwnedTupleGo t it v
        PySem.assign t env v
        let mut ok := true
        for c in fs do
          if ok then ok ← isTrue c env (eval c env)
        if ok then
          match gensF[k + 1]? with
          | some g' =>
            let x ← eval g'.iter env
            standAt g'.iter.pos
            let x ← if g'.is_async != 0 then foldedIterable g'.iter x else foldedSetIterable g'.iter env x
            let _ ← runOwn (.compStart (.ListComp elt gensF scope pos) (k + 1) (← holding [x] (if g'.is_async != 0 then asyncIter x else pyIter x)) acc env) env
          | none => (do let _ ← call (.builtin "list.append") [acc, ← eval elt env] : Sem Unit)
        again (.compLoop (.ListComp elt gensF scope pos) k it acc env)) := by
  unfold compTurn
  simp only [hg]
  rfl

theorem compStart_wp {gensF : List Comprehension} {k : Nat} {t i : Expr} {fs : List Expr} (hg : gensF[k]? = some ⟨t, i, fs, 0⟩) {elt : Expr} {scope : Scope} {pos : Pos} {I l : Addr} {j : Nat} {acc : Value} {env : Env} {A : Around} {s : Shared} {R : Result → Shared → Prop}
    (hit : s.heap.IsListIter I l j) (h : codeAny (model prog w) A (.compLoop (.ListComp elt gensF scope pos) k (.ref I) acc env) R s) :
    codeAny (model prog w) A (.compStart (.ListComp elt gensF scope pos) k (.ref I) acc env) R s := by
  refine codeAny_of_tree ?_
  show wpAny _ _ ((compStart (.ListComp elt gensF scope pos) k (.ref I) acc env).onRaise (fun x => do noteFrame x env; standAt theWindowsPlace)) _ _ s
  refine wpAny_notedAt ?_
  unfold compStart
  simp only [clausesOf, hg]
  show wpAny _ _ (ask >>= _) _ _ s
  refine wpAny_bind (wpAny_askSetting (wpAny_ite ?_))
  split
  · first
      | exact wpAny_bind (wpAny_pure (wpAny_pure (And.intro rfl h)))
      | exact wpAny_pure (And.intro rfl h)
  · refine wpAny_bind (wpAny_rule ?_)
    first
      | exact wpAny_bind (wpAny_standAt (wpAny_bind (wpAny_pyIter_listiter hit (wpAny_pure (And.intro rfl h)))))
      | skip

theorem tsts_wp {fs : List Expr} {b : Bool} (h : Tsts (Te prog w h₀ n sc ρ) fs b) {A : Around} {env : Env} {s : Shared} {H : Addr → Prop} {Q : Bool → Shared → Prop} {E : Value → Shared → Prop} (R : Rm n A) (G : EnvG sc env) (S : SC h₀ H env ρ s.heap)
    (hQ : ∀ h' tk, Kp s.heap h' → Q b { s with heap := h', toks := tk }) :
    wpAny (model prog w) A (forIn fs true fun c r => if r = true then do let ok ← isTrue c env (eval c env); pure (ForInStep.yield ok) else pure (ForInStep.yield r)) Q E s := by
  cases h with
  | nil => exact wpAny_tests_nil (hQ s.heap s.toks (Kp.refl _))
  | one h => exact wpAny_tests_one (h A env s H Q E R G S hQ)

theorem SC.hide {H H' : Addr → Prop} {env : Env} {h : Heap} (S : SC h₀ H env ρ h) (hl : ∀ a, H' a → ∃ o, h.get? a = some o) (hr : ∀ v d, Rd H h v d → Rd H' h v d) : SC h₀ H' env ρ h := by
  refine ⟨S.base, hl, ?_⟩
  obtain ⟨m, hn, hv⟩ := S.loc
  refine ⟨m, hn, fun x d e => ?_⟩
  rcases hv x d e with ⟨k, v, a, r⟩ | ⟨k, c, v, a, b, r⟩
  · exact .inl ⟨k, v, a, hr _ _ r⟩
  · exact .inr ⟨k, c, v, a, b, hr _ _ r⟩

/-- the iterator goes on by one -/
theorem CS.next {H : Addr → Prop} {env : Env} {D I l : Addr} {acc vs : List Value} {j : Nat} {d : PyData} {ds : List PyData} {h h' : Heap} (S : CS h₀ H env ρ D I l acc vs j (d :: ds) h)
    (hit : h'.IsListIter I l (j + 1)) (hs : Heap.SameBut I h h') : CS h₀ H env ρ D I l acc vs (j + 1) ds h' := by
  have hx := hs.extBut
  have up : ∀ a o, a ≠ I → h.get? a = some o → h'.get? a = some o := fun a o ha e => hx a o ha e
  have hr : ∀ v d, Rd H h v d → Rd H h' v d := fun v d r => r.imp fun a o ha e => ⟨ha, up a o (fun z => ha (z ▸ S.hI)) e⟩
  refine ⟨⟨fun a o e => up a o (fun z => by rw [z, S.bI] at e; cases e) (S.base a o e), fun a ha => ?_, ?_⟩, S.hC, S.hD, S.hI, S.dc, S.ic, S.id, S.bC, S.bD, S.bI,
    isList_keep S.acc fun o => up D o (Ne.symm S.id), hit, isList_keep S.lst fun o => up l o (fun z => S.hl (z ▸ S.hI)), S.hl, ?_⟩
  · by_cases hai : a = I
    · subst hai; obtain ⟨o, e, _⟩ := hit; exact ⟨o, e⟩
    · obtain ⟨o, e⟩ := S.live a ha; exact ⟨o, up a o hai e⟩
  · obtain ⟨m, hn, hv⟩ := S.loc
    refine ⟨m, hn.extBut hx (Ne.symm S.ic), fun x d e => ?_⟩
    rcases hv x d e with ⟨k, v, a, r⟩ | ⟨k, c, v, a, ⟨o, eo, ed⟩, r⟩
    · exact .inl ⟨k, v, a, hr _ _ r⟩
    · refine .inr ⟨k, c, v, a, ⟨o, up c o (fun z => ?_) eo, ed⟩, hr _ _ r⟩
      obtain ⟨o', e', _, hf⟩ := S.it
      rw [z, e'] at eo
      cases eo
      rw [hf] at ed
      cases ed
  · have := S.items
    cases hd : vs.drop j with
    | nil => rw [hd] at this; cases this
    | cons v r =>
      rw [hd] at this
      have e : vs.drop (j + 1) = r := by rw [← List.drop_drop, hd]; rfl
      rw [e]
      cases this with
      | cons p q => exact q.imp fun a o ha e => ⟨ha, up a o (fun z => ha (z ▸ S.hI)) e⟩

/-- an item is put at the end -/
theorem CS.put {H : Addr → Prop} {env : Env} {D I l : Addr} {acc vs : List Value} {j : Nat} {v : Value} {ds : List PyData} {h h' : Heap} (S : CS h₀ H env ρ D I l acc vs j ds h)
    (hl : h'.IsList D (acc.toArray.push v)) (hs : Heap.SameBut D h h') : CS h₀ H env ρ D I l (acc ++ [v]) vs j ds h' := by
  have hx := hs.extBut
  have up : ∀ a o, a ≠ D → h.get? a = some o → h'.get? a = some o := fun a o ha e => hx a o ha e
  have hr : ∀ v d, Rd H h v d → Rd H h' v d := fun v d r => r.imp fun a o ha e => ⟨ha, up a o (fun z => ha (z ▸ S.hD)) e⟩
  refine ⟨⟨fun a o e => up a o (fun z => by rw [z, S.bD] at e; cases e) (S.base a o e), fun a ha => ?_, ?_⟩, S.hC, S.hD, S.hI, S.dc, S.ic, S.id, S.bC, S.bD, S.bI,
    by simpa using hl, isListIter_keep S.it fun o => up I o S.id, isList_keep S.lst fun o => up l o (fun z => S.hl (z ▸ S.hD)), S.hl, S.items.imp fun a o ha e => ⟨ha, up a o (fun z => ha (z ▸ S.hD)) e⟩⟩
  · by_cases hai : a = D
    · subst hai; obtain ⟨o, e, _⟩ := hl; exact ⟨o, e⟩
    · obtain ⟨o, e⟩ := S.live a ha; exact ⟨o, up a o hai e⟩
  · obtain ⟨m, hn, hv⟩ := S.loc
    refine ⟨m, hn.extBut hx (Ne.symm S.dc), fun x d e => ?_⟩
    rcases hv x d e with ⟨k, v, a, r⟩ | ⟨k, c, v, a, ⟨o, eo, ed⟩, r⟩
    · exact .inl ⟨k, v, a, hr _ _ r⟩
    · refine .inr ⟨k, c, v, a, ⟨o, up c o (fun z => ?_) eo, ed⟩, hr _ _ r⟩
      obtain ⟨o', e', _, _, hf⟩ := S.acc
      rw [z, e'] at eo
      cases eo
      rw [hf] at ed
      cases ed

/-- the frame behind an iterator that has ended -/
theorem CS.ended {H : Addr → Prop} {env : Env} {D I l : Addr} {acc vs : List Value} {j : Nat} {ds : List PyData} {h h' : Heap} (S : CS h₀ H env ρ D I l acc vs j ds h) (hx : Heap.ExtBut I h h') :
    SC h₀ (fun a => H a ∧ a ≠ I) env ρ h' ∧ h'.IsList D acc.toArray := by
  have up : ∀ a o, a ≠ I → h.get? a = some o → h'.get? a = some o := fun a o ha e => hx a o ha e
  have hr : ∀ v d, Rd H h v d → Rd (fun a => H a ∧ a ≠ I) h' v d := fun v d r => r.imp fun a o ha e => ⟨fun z => ha z.1, up a o (fun z => ha (z ▸ S.hI)) e⟩
  refine ⟨⟨fun a o e => up a o (fun z => by rw [z, S.bI] at e; cases e) (S.base a o e), fun a ha => ?_, ?_⟩, isList_keep S.acc fun o => up D o (Ne.symm S.id)⟩
  · obtain ⟨o, e⟩ := S.live a ha.1; exact ⟨o, up a o ha.2 e⟩
  · obtain ⟨m, hn, hv⟩ := S.loc
    refine ⟨m, hn.extBut hx (Ne.symm S.ic), fun x d e => ?_⟩
    rcases hv x d e with ⟨k, v, a, r⟩ | ⟨k, c, v, a, ⟨o, eo, ed⟩, r⟩
    · exact .inl ⟨k, v, a, hr _ _ r⟩
    · refine .inr ⟨k, c, v, a, ⟨o, up c o (fun z => ?_) eo, ed⟩, hr _ _ r⟩
      obtain ⟨o', e', _, hf⟩ := S.it
      rw [z, e'] at eo
      cases eo
      rw [hf] at ed
      cases ed

theorem CS.rho {H : Addr → Prop} {env : Env} {ρ' : Rho} {D I l : Addr} {acc vs : List Value} {j : Nat} {ds : List PyData} {h : Heap} (S : CS h₀ H env ρ' D I l acc vs j ds h) (L : Loc H h env ρ) : CS h₀ H env ρ D I l acc vs j ds h :=
  ⟨⟨S.base, S.live, L⟩, S.hC, S.hD, S.hI, S.dc, S.ic, S.id, S.bC, S.bD, S.bI, S.acc, S.it, S.lst, S.hl, S.items⟩

def CEnd (h₀ : Heap) (H : Addr → Prop) (env : Env) (ρ : Rho) (D I : Addr) (acc : List Value) (out : List PyData) (s : Shared) (R : Result → Shared → Prop) : Prop :=
  ∀ h' tk ys, Kc env.locals D I s.heap h' → SC h₀ (fun a => H a ∧ a ≠ I) env ρ h' → h'.IsList D (acc ++ ys).toArray → RdAll H h' ys out → R (.ok .next) { s with heap := h', toks := tk }

theorem next_some {prog : Program} {w : World} {A : Around} {env : Env} {s : Shared} {H : Addr → Prop} {D I l : Addr} {acc vs : List Value} {j : Nat} {d : PyData} {ds : List PyData} {Q : Option Value → Shared → Prop} {E : Value → Shared → Prop}
    (S : CS h₀ H env ρ D I l acc vs j (d :: ds) s.heap) (h : ∀ v h', Rd H h' v d → CS h₀ H env ρ D I l acc vs (j + 1) ds h' → Kc env.locals D I s.heap h' → Q (some v) { s with heap := h' }) :
    wpAny (model prog w) A (pyNext (.ref I)) Q E s := by
  have hi := S.items
  cases hd : vs.drop j with
  | nil => rw [hd] at hi; cases hi
  | cons v r =>
    rw [hd] at hi
    cases hi with
    | cons p q =>
      have hv : vs[j]? = some v := by
        have := congrArg (fun x => x[0]?) hd
        simpa using this
      refine wpAny_pyNext_list_item S.it S.lst (by simpa using hv) fun h' hit hs => ?_
      exact h v h' (p.imp fun a o ha e => ⟨ha, hs.extBut a o (fun z => ha (z ▸ S.hI)) e⟩) (S.next hit hs) fun a o _ _ ha e => hs.extBut a o ha e

theorem Cmp.sound {elt : Expr} {gens : List Comprehension} {ds out : List PyData} (hk : sc.kind = .function) (C : Cmp prog w h₀ n sc elt gens ρ ds out) :
    ∀ {k : Nat} {gensF : List Comprehension} {scope : Scope} {pos : Pos} (hg : gensF.drop k = gens) {A : Around} {env : Env} {I l D : Addr} {vs acc : List Value} {j : Nat} {s : Shared} {H : Addr → Prop} {R : Result → Shared → Prop}
      (Rr : Rm n A) (G : EnvG sc env) (S : CS h₀ H env ρ D I l acc vs j ds s.heap) (hsz : acc.length + out.length ≤ sizeLine) (hR : CEnd h₀ H env ρ D I acc out s R),
      codeAny (model prog w) A (.compLoop (.ListComp elt gensF scope pos) k (.ref I) (.ref D) env) R s := by
  have at0 : ∀ {gensF : List Comprehension} {k : Nat} {g : Comprehension} {gs : List Comprehension}, gensF.drop k = g :: gs → gensF[k]? = some g ∧ gensF[k + 1]? = gs[0]? ∧ gensF.drop (k + 1) = gs := fun {gensF k g gs} hg => by
    have h1 := congrArg (fun x => x[0]?) hg
    have h2 := congrArg (fun x => x[1]?) hg
    refine ⟨by simpa using h1, by simpa using h2, ?_⟩
    rw [← List.drop_drop, hg]; rfl
  induction C with
  | @nil gs r t i fs =>
    intro k gensF scope pos hg A env I l D vs acc j s H R Rr G S hsz hR
    obtain ⟨hgk, _, _⟩ := at0 hg
    refine codeAny_of_tree ?_
    show wpAny _ A ((compTurn (.ListComp elt gensF scope pos) k (.ref I) (.ref D) env).onRaise (fun x => do noteFrame x env; theTreesLotGoes x)) _ _ s
    refine wpAny_noted ?_
    rw [compTurn_at hgk]
    have hlen := S.items.length
    have hj : vs.length ≤ j := by simp at hlen; omega
    refine wpAny_bind (wpAny_standAt (wpAny_bind (wpAny_pyNext_list_end (i := j) Rr.hh S.it S.lst (by simpa using hj) fun h' hx => ?_)))
    refine wpAny_pure ?_
    obtain ⟨e1, e2⟩ := S.ended hx
    exact hR h' s.toks [] (fun a o _ _ ha e => hx a o ha e) e1 (by simpa using e2) .nil
  | @skip gs r r' t i fs d ds out hb ht hc ih =>
    intro k gensF scope pos hg A env I l D vs acc j s H R Rr G S hsz hR
    obtain ⟨hgk, _, _⟩ := at0 hg
    refine codeAny_of_tree ?_
    show wpAny _ A ((compTurn (.ListComp elt gensF scope pos) k (.ref I) (.ref D) env).onRaise (fun x => do noteFrame x env; theTreesLotGoes x)) _ _ s
    refine wpAny_noted ?_
    rw [compTurn_at hgk]
    refine wpAny_bind (wpAny_standAt (wpAny_bind (next_some S fun v h₁ rv S1 k1 => ?_)))
    refine bnd_wp (s := { s with heap := h₁ }) Rr.hh G S1 rv hb hk fun h₂ t₂ k2 S2 L2 => ?_
    refine wpAny_bind (tsts_wp ht Rr G S2.toSC fun h₃ t₃ k3 => ?_)
    simp only [Bool.false_eq_true, if_false]
    have S3 := (S2.keep k3).rho (L2 _ (S2.keep k3).loc)
    refine wpAny_pure ⟨rfl, ih hg Rr G S3 hsz fun h' tk ys kc sc' hl hr => ?_⟩
    exact hR h' tk ys ((k1.trans (fun a o hac _ _ e => k3 _ _ (k2 a o hac e))).trans kc) sc' hl hr
  | @one r r' t i fs d e ds out hb ht he hc ih =>
    intro k gensF scope pos hg A env I l D vs acc j s H R Rr G S hsz hR
    obtain ⟨hgk, hgk1, _⟩ := at0 hg
    refine codeAny_of_tree ?_
    show wpAny _ A ((compTurn (.ListComp elt gensF scope pos) k (.ref I) (.ref D) env).onRaise (fun x => do noteFrame x env; theTreesLotGoes x)) _ _ s
    refine wpAny_noted ?_
    rw [compTurn_at hgk]
    refine wpAny_bind (wpAny_standAt (wpAny_bind (next_some S fun v h₁ rv S1 k1 => ?_)))
    refine bnd_wp (s := { s with heap := h₁ }) Rr.hh G S1 rv hb hk fun h₂ t₂ k2 S2 L2 => ?_
    refine wpAny_bind (tsts_wp ht Rr G S2.toSC fun h₃ t₃ k3 => ?_)
    have S3 := S2.keep k3
    simp only [if_true]
    rw [hgk1]
    refine wpAny_bind (wpAny_bind (he A env _ H _ _ Rr G S3.toSC fun u h₄ t₄ k4 ru => ?_))
    have S4 := S3.keep k4
    simp only [List.length_cons] at hsz
    refine wpAny_bind (wpAny_list_append (s := { s with heap := h₄, toks := t₄ }) S4.acc (fun h₅ hl₅ hs₅ => ?_) (by simp; omega))
    refine wpAny_pure ?_
    have S5' := S4.put hl₅ hs₅
    have S5 := S5'.rho (L2 _ S5'.loc)
    refine wpAny_pure ⟨rfl, ih hg Rr G S5 (by simp; omega) fun h' tk ys kc sc' hl hr => ?_⟩
    have k35 : Kc env.locals D I h₂ h₅ := fun a o _ had _ e => hs₅.extBut a o had (k4 _ _ (k3 _ _ e))
    have kk : Kc env.locals D I s.heap h' := ((k1.trans (fun a o hac _ _ e => k2 a o hac e)).trans k35).trans kc
    have ru5 : Rd H h' u e := ru.imp fun a o ha e => ⟨ha, kc a o (fun z => ha (z ▸ S.hC)) (fun z => ha (z ▸ S.hD)) (fun z => ha (z ▸ S.hI)) (hs₅.extBut a o (fun z => ha (z ▸ S.hD)) e)⟩
    exact hR h' tk (u :: ys) kk sc' (by simpa using hl) (.cons ru5 hr)
  | @deep gs r r' t i t' i' fs fs' d ds ds' out out' hb ht he hf hc1 hc2 ih1 ih2 =>
    intro k gensF scope pos hg A env I l D vs acc j s H R Rr G S hsz hR
    obtain ⟨hgk, hgk1, hg1⟩ := at0 hg
    refine codeAny_of_tree ?_
    show wpAny _ A ((compTurn (.ListComp elt gensF scope pos) k (.ref I) (.ref D) env).onRaise (fun x => do noteFrame x env; theTreesLotGoes x)) _ _ s
    refine wpAny_noted ?_
    rw [compTurn_at hgk]
    refine wpAny_bind (wpAny_standAt (wpAny_bind (next_some S fun v h₁ rv S1 k1 => ?_)))
    refine bnd_wp (s := { s with heap := h₁ }) Rr.hh G S1 rv hb hk fun h₂ t₂ k2 S2 L2 => ?_
    refine wpAny_bind (tsts_wp ht Rr G S2.toSC fun h₃ t₃ k3 => ?_)
    have S3 := S2.keep k3
    simp only [if_true]
    rw [hgk1]
    simp only [List.getElem?_cons_zero]
    refine wpAny_bind (he A env _ H _ _ Rr G S3.toSC fun u h₄ t₄ k4 ru => ?_)
    have S4 := S3.keep k4
    refine wpAny_bind (wpAny_standAt ?_)
    refine wpAny_bind (wpAny_of_eq (hf env u) ?_)
    obtain ⟨l', vs', rfl, hnl', hl', q'⟩ := ru.isList
    refine wpAny_bind (wpAny_holding (wpAny_pyIter_list (s := { s with heap := h₄, toks := t₄ }) hl' ?_))
    generalize hI' : h₄.objs.size = I'
    have hIn : h₄.get? I' = Option.none := hI' ▸ get?_size h₄
    have hHI : ¬ H I' := S4.toSC.new hIn
    show wpAny (model prog w) A _ _ _ { s with heap := h₄.push { cls := .type "list_iterator", data := .fields #[.ref l', .int 0 0] }, toks := t₄ }
    generalize hh₅ : h₄.push { cls := .type "list_iterator", data := .fields #[.ref l', .int 0 0] } = h₅
    have k5 : Kp h₄ h₅ := hh₅ ▸ Kp.push _ _
    have hit5 : h₅.IsListIter I' l' 0 := ⟨_, by rw [← hh₅, ← hI']; exact Heap.get?_push_size _ rfl, rfl, rfl⟩
    have S5 := S4.keep k5
    have hl'I : l' ≠ I' := fun e => by obtain ⟨o', e', _⟩ := hl'; rw [e, hIn] at e'; cases e'
    have hr : ∀ v d, Rd H h₄ v d → Rd (fun a => H a ∨ a = I') h₅ v d := fun v d r => r.imp fun a o ha e =>
      ⟨fun z => z.elim ha (fun e' => by have e2 := e; rw [e', hIn] at e2; cases e2), k5 _ _ e⟩
    have hlv : ∀ a, (fun a => H a ∨ a = I') a → ∃ o, h₅.get? a = some o := fun a ha => by
      rcases ha with ha | rfl
      · exact S5.live a ha
      · obtain ⟨o, e, _⟩ := hit5; exact ⟨o, e⟩
    have hbI : h₀.get? I' = Option.none := by
      cases e : h₀.get? I' with
      | none => rfl
      | some o => have := S4.base _ _ e; rw [hIn] at this; cases this
    have loc5 : Loc (fun a => H a ∨ a = I') h₅ env r' := by
      obtain ⟨m, hn, hv⟩ := S4.loc
      refine ⟨m, hn.keeps k5, fun x d e => ?_⟩
      rcases hv x d e with ⟨k, v, a, r⟩ | ⟨k, c, v, a, b, r⟩
      · exact .inl ⟨k, v, a, hr _ _ r⟩
      · exact .inr ⟨k, c, v, a, b.keeps k5, hr _ _ r⟩
    have S6 : CS h₀ (fun a => H a ∨ a = I') env r' D I' l' acc vs' 0 ds' h₅ :=
      ⟨⟨S5.base, hlv, loc5⟩, .inl S.hC, .inl S.hD, .inr rfl, S.dc, fun e => hHI (e ▸ S.hC), fun e => hHI (e ▸ S.hD), S.bC, S.bD, hbI, S5.acc, hit5, isList_keep hl' fun o => k5 _ o,
        fun z => z.elim hnl' hl'I, by
          rw [List.drop_zero]
          exact q'.imp fun a o ha e => ⟨fun z => z.elim ha (fun e' => by have e2 := e; rw [e', hIn] at e2; cases e2), k5 _ _ e⟩⟩
    simp only [List.length_append] at hsz
    refine wpAny_bind (wpAny_runOwn (h := none) (compStart_wp (i := i') (t := t') (fs := fs') ?_ hit5 ?_))
    · rw [hgk1]; rfl
    refine ih1 hg1 (A := A.mark none) ⟨Rr.hh, Rr.dp, Rr.un⟩ G S6 (by omega) fun h' tk ys kc sc' hl hr' => ?_
    have kI : ∀ o, h₅.get? I = some o → h'.get? I = some o := fun o e => kc I o S.ic S.id (fun e' => hHI (e' ▸ S.hI)) e
    have kl : ∀ o, h₅.get? l = some o → h'.get? l = some o := fun o e => kc l o (fun z => S.hl (z ▸ S.hC)) (fun z => S.hl (z ▸ S.hD)) (fun z => by
      obtain ⟨o', e', _⟩ := S4.lst; rw [z, hIn] at e'; cases e') e
    have hHr : ∀ {v d}, Rd (fun a => (H a ∨ a = I') ∧ a ≠ I') h' v d → Rd H h' v d := fun r => r.imp fun a o ha e => ⟨fun z => ha ⟨.inl z, fun e' => hHI (e' ▸ z)⟩, e⟩
    have loc' : Loc H h' env r' := by
      obtain ⟨m, hn, hv⟩ := sc'.loc
      refine ⟨m, hn, fun x d e => ?_⟩
      rcases hv x d e with ⟨k, v, a, r⟩ | ⟨k, c, v, a, b, r⟩
      · exact .inl ⟨k, v, a, hHr r⟩
      · exact .inr ⟨k, c, v, a, b, hHr r⟩
    have S7 : CS h₀ H env r D I l (acc ++ ys) vs (j + 1) ds h' :=
      ⟨⟨sc'.base, fun a ha => sc'.live a ⟨.inl ha, fun e' => hHI (e' ▸ ha)⟩, L2 _ loc'⟩, S.hC, S.hD, S.hI, S.dc, S.ic, S.id, S.bC, S.bD, S.bI, hl, isListIter_keep S5.it kI, isList_keep S5.lst kl, S.hl,
        S4.items.imp fun a o ha e => ⟨ha, kc a o (fun z => ha (z ▸ S.hC)) (fun z => ha (z ▸ S.hD)) (fun z => by rw [z, hIn] at e; cases e) (k5 _ _ e)⟩⟩
    refine wpAny_pure ⟨rfl, ih2 hg Rr G S7 (by rw [List.length_append, hr'.length]; omega) fun h'' tk' ys' kc' sc'' hl'' hr'' => ?_⟩
    have kk : Kc env.locals D I s.heap h'' := fun a o hac had hai e => by
      have e4 : h₄.get? a = some o := k4 _ _ (k3 _ _ (k2 a o hac (k1 a o hac had hai e)))
      exact kc' a o hac had hai (kc a o hac had (fun z => by rw [z, hIn] at e4; cases e4) (k5 _ _ e4))
    refine hR h'' tk' (ys ++ ys') kk sc'' (by simpa [List.append_assoc] using hl'') ((hr'.imp fun a o ha e => ⟨fun z => ha (.inl z), kc' a o (fun z => ha (.inl (z ▸ S.hC))) (fun z => ha (.inl (z ▸ S.hD))) (fun z => ha (.inl (z ▸ S.hI))) e⟩).append hr'')
end
end Mine

namespace Mine

def relabS (scope sc : Scope) : Scope :=
  { scope with names := scope.names.map fun (n, k) => if (k == .free && sc.kind == .function && sc.names.lookup n == some .cell) then (n, .cell) else (n, k) }
theorem relab_eq {scope sc : Scope} {env : Env} (h : env.scope = sc) : relabel scope env = relabS scope sc := by subst h; rfl

/-- what a comprehension captures -/
def Caps (ρ : Rho) (scope sc : Scope) : Rho → Prop
  | [] => True
  | (x, d) :: r => (ρ.lookup x = some d ∧ (relabS scope sc).names.lookup x = some .cell ∧ sc.names.lookup x = some .cell) ∧ Caps ρ scope sc r

theorem Caps.get {ρ : Rho} {scope sc : Scope} : ∀ {r : Rho} {x : Str} {d : PyData}, Caps ρ scope sc r → r.lookup x = some d → ρ.lookup x = some d ∧ (relabS scope sc).names.lookup x = some .cell ∧ sc.names.lookup x = some .cell
  | (y, e) :: r, x, d, h, hx => by
    rw [List.lookup_cons] at hx
    by_cases hxy : x = y
    · subst hxy
      simp only [beq_self_eq_true, Option.some.injEq] at hx
      subst hx
      exact h.1
    · rw [beq_eq_false_iff_ne.mpr hxy] at hx
      exact h.2.get hx

theorem closure_at (env : Env) : ∀ (names : List (Str × NameKind)) (acc : List (Str × Addr)), (∀ x, (x, NameKind.free) ∈ names → ∃ c, env.cells.lookup x = some c) → (∀ x c, acc.lookup x = some c → env.cells.lookup x = some c) →
    ∃ cl, (forIn names acc (fun (x : Str × NameKind) (cs : List (Str × Addr)) => (if x.2 == .free then do let c ← cellOf env x.1; pure (ForInStep.yield ((x.1, c) :: cs)) else pure (ForInStep.yield cs) : Sem (ForInStep (List (Str × Addr)))))) = pure cl ∧
      (∀ x c, cl.lookup x = some c → env.cells.lookup x = some c) ∧ (∀ x, (x, NameKind.free) ∈ names ∨ (∃ c, acc.lookup x = some c) → ∃ c, cl.lookup x = some c)
  | [], acc, _, ha => ⟨acc, rfl, ha, fun x h => h.elim (fun z => by cases z) id⟩
  | (n, k) :: r, acc, hf, ha => by
    by_cases hk : k = .free
    · subst hk
      obtain ⟨c, hc⟩ := hf n List.mem_cons_self
      obtain ⟨cl, e, h1, h2⟩ := closure_at env r ((n, c) :: acc) (fun x hx => hf x (List.mem_cons_of_mem _ hx)) (fun x c' hx => by
        rw [List.lookup_cons] at hx
        by_cases hxn : x = n
        · subst hxn; simp only [beq_self_eq_true, Option.some.injEq] at hx; subst hx; exact hc
        · rw [beq_eq_false_iff_ne.mpr hxn] at hx; exact ha x c' hx)
      refine ⟨cl, ?_, h1, fun x hx => h2 x ?_⟩
      · rw [List.forIn_cons]
        have : cellOf env n = pure c := by unfold cellOf; rw [hc]
        simp only [beq_self_eq_true, if_true, this, pure_bind]
        exact e
      · by_cases hxn : x = n
        · subst hxn; exact .inr ⟨c, by simp⟩
        · rcases hx with hx | ⟨c', hx⟩
          · rcases List.mem_cons.mp hx with e | hx
            · cases e; exact absurd rfl hxn
            · exact .inl hx
          · exact .inr ⟨c', by rw [List.lookup_cons, beq_eq_false_iff_ne.mpr hxn]; exact hx⟩
    · obtain ⟨cl, e, h1, h2⟩ := closure_at env r acc (fun x hx => hf x (List.mem_cons_of_mem _ hx)) ha
      refine ⟨cl, ?_, h1, fun x hx => h2 x ?_⟩
      · rw [List.forIn_cons]
        have : (k == NameKind.free) = false := by simpa using hk
        simp only [this, Bool.false_eq_true, if_false, pure_bind]
        exact e
      · rcases hx with hx | hx
        · rcases List.mem_cons.mp hx with e | hx
          · cases e; exact absurd rfl hk
          · exact .inl hx
        · exact .inr hx

theorem closureFor_at {scope : Scope} {env : Env} (hf : ∀ x, (x, NameKind.free) ∈ scope.names → ∃ c, env.cells.lookup x = some c) :
    ∃ cl, closureFor scope env = pure cl ∧ (∀ x c, cl.lookup x = some c → env.cells.lookup x = some c) ∧ (∀ x, (x, NameKind.free) ∈ scope.names → ∃ c, cl.lookup x = some c) := by
  obtain ⟨cl, e, h1, h2⟩ := closure_at env scope.names [] hf (fun x c h => by simp at h)
  refine ⟨cl, ?_, h1, fun x hx => h2 x (.inl hx)⟩
  unfold closureFor
  show (forIn scope.names [] _ >>= fun cs => pure cs) = pure cl
  rw [show (forIn scope.names [] _ : Sem (List (Str × Addr))) = pure cl from e]
  rfl

section
variable {prog : Program} {w : World} {h₀ : Heap} {mg mb : Str → Option Value} {n : Nat} {sc : Scope} {ρ : Rho}

/-- a comprehension's loop, from the source's value to the list -/
theorem comp_wp {elt : Expr} {t i : Expr} {fs : List Expr} {gs : List Comprehension} {scope : Scope} {pos : Pos} {ds out : List PyData} {ρ0 : Rho}
    (hcap : Caps ρ scope sc ρ0) (hfr : ∀ x, (x, NameKind.free) ∈ scope.names → ∃ d, ρ0.lookup x = some d)
    (C : Cmp prog w h₀ n (relabS scope sc) elt (⟨t, i, fs, 0⟩ :: gs) ρ0 ds out) (hsz : out.length ≤ 2 ^ 20)
    (hk : scope.kind = .function) (hcell : ∀ x ∈ scope.names, x.2 ≠ .cell) (hnames : ∀ x ∈ scope.names, x.2 = .local → scope.names.lookup x.1 = some .local)
    {A : Around} {env : Env} {s : Shared} {H : Addr → Prop} {use : Option (Value → Sem Unit)} {Q : Value → Shared → Prop} {E : Value → Shared → Prop} {first : Sem Value} (R : Rm n A) (G : EnvG sc env) (S : SC h₀ H env ρ s.heap)
    (hs : ∀ x, foldedSetIterable i env x = pure x)
    (hfirst : ∀ Q' : Value → Shared → Prop, (∀ v h' tk, Kp s.heap h' → Rd H h' v (.list ds) → Q' v { s with heap := h', toks := tk }) → wpAny (model prog w) A first Q' E s)
    (hQ : ∀ (D C : Addr) h' tk (m : Str → Option Value), Kp s.heap h' → h'.Ns C m → s.heap.get? C = none → s.heap.get? D = none → D ≠ C → Rd (fun a => H a ∨ a = C) h' (.ref D) (.list out) → compPost (model prog w) A E use Q (.ref D) C (.ok .next) { s with heap := h', toks := tk }) :
    wpAny (model prog w) A (comprehension (.ListComp elt (⟨t, i, fs, 0⟩ :: gs) scope pos) scope env (firstIterPos (⟨t, i, fs, 0⟩ :: gs) pos) (newList []) false first use) Q E s := by
  have hcl : ∀ x, (x, NameKind.free) ∈ scope.names → ∃ c, env.cells.lookup x = some c := fun x hx => by
    obtain ⟨d, hd⟩ := hfr x hx
    obtain ⟨h1, h2, h3⟩ := hcap.get hd
    obtain ⟨m, hn, hv⟩ := S.loc
    rcases hv x d h1 with ⟨kl, _⟩ | ⟨_, c, v, ec, _⟩
    · rw [Env.kindOf, G.scope, h3] at kl; cases kl
    · exact ⟨c, ec⟩
  obtain ⟨cl, hclos, cl1, cl2⟩ := closureFor_at hcl
  refine wpAny_comprehension_free (g := ⟨t, i, fs, 0⟩) (gs := gs) rfl hs hclos hk hnames (hfirst _ fun xv h₁ t₁ k₁ r₁ => ?_)
  have S1 := S.keep k₁
  obtain ⟨l, vs, rfl, hnl, hl, q⟩ := r₁.isList
  refine wpAny_pyIter_list (s := { s with heap := h₁, toks := t₁ }) hl ?_
  generalize hI : h₁.objs.size = I
  have hIn : h₁.get? I = none := hI ▸ get?_size h₁
  show wpAny (model prog w) A _ _ _ { s with heap := h₁.push { cls := .type "list_iterator", data := .fields #[.ref l, .int 0 0] }, toks := t₁ }
  generalize hh₂ : h₁.push { cls := .type "list_iterator", data := .fields #[.ref l, .int 0 0] } = h₂
  have k₂ : Kp h₁ h₂ := hh₂ ▸ Kp.push _ _
  have hit₂ : h₂.IsListIter I l 0 := ⟨_, by rw [← hh₂, ← hI]; exact Heap.get?_push_size _ rfl, rfl, rfl⟩
  have S2 := S1.keep k₂
  refine wpAny_newObj_type (wpAny_newFunctionEnv hcell (by intro y hy; simp at hy) (fun h₃ hns₃ hsb₃ => ?_) hk)
  dsimp only at hns₃ hsb₃ ⊢
  generalize hH2 : h₂.push { cls := .type "list", dict := none, data := .seq ([] : List Value).toArray } = H2 at hns₃ hsb₃ ⊢
  have hDn : h₂.get? h₂.objs.size = none := get?_size h₂
  have hCs : H2.objs.size = h₂.objs.size + 1 := by rw [← hH2, Heap.size_push]
  have hCn2 : H2.get? H2.objs.size = none := get?_size H2
  have kH2 : Kp h₂ H2 := hH2 ▸ Kp.push _ _
  generalize hC : H2.objs.size = Ca at hns₃ hsb₃ hCs hCn2 ⊢
  generalize hD : h₂.objs.size = Da at hDn hCs ⊢
  have hDC : Da ≠ Ca := by omega
  have hCn : h₂.get? Ca = none := by
    cases e : h₂.get? Ca with
    | none => rfl
    | some o => have := kH2 _ _ e; rw [hCn2] at this; cases this
  have old : Kp h₂ h₃ := fun a o e => hsb₃.extBut a o (fun z => by rw [z, hCn] at e; cases e) (Heap.get?_push_of_some _ (kH2 _ _ e))
  have hacc : h₃.IsList Da ([] : List Value).toArray := by
    have e0 : H2.get? Da = some { cls := .type "list", dict := none, data := .seq ([] : List Value).toArray } := by rw [← hH2, ← hD]; exact Heap.get?_push_size _ rfl
    exact ⟨_, hsb₃.extBut _ _ hDC (Heap.get?_push_of_some _ e0), rfl, _, rfl⟩
  have nD : ¬ H Da := S2.new hDn
  have nC : ¬ H Ca := S2.new hCn
  have nI : ¬ H I := S1.new hIn
  have hID : I ≠ Da := fun e => by obtain ⟨o, e', _⟩ := hit₂; rw [e, hDn] at e'; cases e'
  have hIC : I ≠ Ca := fun e => by obtain ⟨o, e', _⟩ := hit₂; rw [e, hCn] at e'; cases e'
  have base0 : ∀ a, h₂.get? a = none → h₀.get? a = none := fun a e => by
    cases e' : h₀.get? a with
    | none => rfl
    | some o => have := S2.base _ _ e'; rw [e] at this; cases this
  have base1 : ∀ a, h₁.get? a = none → h₀.get? a = none := fun a e => by
    cases e' : h₀.get? a with
    | none => rfl
    | some o => have := S1.base _ _ e'; rw [e] at this; cases this
  have olds : ∀ a, h₂.get? a = none → s.heap.get? a = none := fun a e => by
    cases e' : s.heap.get? a with
    | none => rfl
    | some o => have := k₂ _ _ (k₁ _ _ e'); rw [e] at this; cases this
  have hr1 : ∀ {v d}, Rd H h₁ v d → Rd (fun a => H a ∨ a = Ca ∨ a = Da ∨ a = I) h₃ v d := fun r => r.imp fun a o ha e =>
    ⟨(fun z => by
      rcases z with z | z | z | z
      · exact ha z
      · have := k₂ _ _ e; rw [z, hCn] at this; cases this
      · have := k₂ _ _ e; rw [z, hDn] at this; cases this
      · have e2 := e; rw [z, hIn] at e2; cases e2), old _ _ (k₂ _ _ e)⟩
  have q1 : RdAll (fun a => H a ∨ a = Ca ∨ a = Da ∨ a = I) h₃ vs ds := q.imp fun a o ha e =>
    ⟨(fun z => by
      rcases z with z | z | z | z
      · exact ha z
      · have := k₂ _ _ e; rw [z, hCn] at this; cases this
      · have := k₂ _ _ e; rw [z, hDn] at this; cases this
      · have e2 := e; rw [z, hIn] at e2; cases e2), old _ _ (k₂ _ _ e)⟩
  have Gc : EnvG (relabS scope sc) (compEnvC scope cl Ca env) := ⟨by show relabel scope env = _; exact relab_eq G.scope, G.globals, G.builtins⟩
  have hcs : h₃.Ns Ca (fun x => ([] : List (Str × Value)).reverse.lookup x) := hns₃
  have CS0 : CS h₀ (fun a => H a ∨ a = Ca ∨ a = Da ∨ a = I) (compEnvC scope cl Ca env) ρ0 Da I l [] vs 0 ds h₃ := by
    refine ⟨⟨S2.base.trans old, fun a ha => ?_, _, hcs, fun x d hx => ?_⟩, .inr (.inl rfl), .inr (.inr (.inl rfl)), .inr (.inr (.inr rfl)), hDC, hIC, hID, base0 _ hCn, base0 _ hDn, base1 _ hIn, hacc,
      isListIter_keep hit₂ fun o => old _ o, isList_keep hl fun o e => old _ o (k₂ _ _ e), fun z => ?_, by rw [List.drop_zero]; exact q1⟩
    · rcases ha with z | z | z | z
      · obtain ⟨o, e⟩ := S2.live a z; exact ⟨o, old _ _ e⟩
      · obtain ⟨o, _, _, e, _⟩ := hcs; exact ⟨o, z ▸ e⟩
      · obtain ⟨o, e, _⟩ := hacc; exact ⟨o, z ▸ e⟩
      · obtain ⟨o, e, _⟩ := hit₂; exact ⟨o, z ▸ old _ _ e⟩
    · obtain ⟨h1, h2, h3⟩ := hcap.get hx
      obtain ⟨m, hn, hv⟩ := S1.loc
      rcases hv x d h1 with ⟨kl, _⟩ | ⟨_, c, v, ec, ic, rv⟩
      · rw [Env.kindOf, G.scope, h3] at kl; cases kl
      · have hc : (compEnvC scope cl Ca env).kindOf x = some .cell := by rw [Env.kindOf, Gc.scope]; exact h2
        -- the name is free in the comprehension's table
        have hfree : (x, NameKind.free) ∈ scope.names := by
          have hm := mem_of_lookup h2
          simp only [relabS, List.mem_map] at hm
          obtain ⟨⟨y, k⟩, hy, he⟩ := hm
          by_cases hcond : (k == NameKind.free && sc.kind == .function && sc.names.lookup y == some .cell) = true
          · rw [if_pos hcond] at he
            simp only [Bool.and_eq_true, beq_iff_eq] at hcond
            cases he
            rw [← hcond.1.1]; exact hy
          · rw [if_neg hcond] at he
            cases he
            exact absurd rfl (hcell _ hy)
        obtain ⟨c', hc'⟩ := cl2 x hfree
        have := cl1 x c' hc'
        rw [ec] at this
        cases this
        exact .inr ⟨hc, c, v, hc', (ic.keeps k₂).keeps old, hr1 rv⟩
    · rcases z with z | z | z | z
      · exact hnl z
      · obtain ⟨o, e, _⟩ := hl; have := k₂ _ _ e; rw [z, hCn] at this; cases this
      · obtain ⟨o, e, _⟩ := hl; have := k₂ _ _ e; rw [z, hDn] at this; cases this
      · obtain ⟨o, e, _⟩ := hl; rw [z, hIn] at e; cases e
  have kall : Kp s.heap h₂ := k₁.trans k₂
  have run : codeAny (model prog w) A (.compStart (.ListComp elt (⟨t, i, fs, 0⟩ :: gs) scope pos) 0 (.ref I) (.ref Da) (compEnvC scope cl Ca env)) (compPost (model prog w) A E use Q (.ref Da) Ca)
      { s with heap := h₃, toks := t₁ + ([] : List (Str × Value)).length } := by
    refine compStart_wp (s := { s with heap := h₃, toks := t₁ + ([] : List (Str × Value)).length }) (k := 0) (t := t) (i := i) (fs := fs) rfl CS0.it ?_
    refine Cmp.sound (s := { s with heap := h₃, toks := t₁ + ([] : List (Str × Value)).length }) (by show scope.kind = _; exact hk) C rfl R Gc CS0 (by rw [sizeLine_eq]; simp; omega) fun h' tk ys kc sc' hl' hr' => ?_
    have kk : Kp s.heap h' := fun a o e => kc a o (fun z => by rw [show a = Ca from z, olds _ hCn] at e; cases e) (fun z => by rw [z, olds _ hDn] at e; cases e)
      (fun z => by have := k₁ _ _ e; rw [z, hIn] at this; cases this) (old _ _ (kall _ _ e))
    obtain ⟨m, hn, _⟩ := sc'.loc
    refine hQ Da Ca h' tk m kk hn (olds _ hCn) (olds _ hDn) hDC ?_
    refine Rd.ofList (fun z => z.elim nD hDC) (by simpa using hl') (hr'.imp fun a o ha e => ⟨fun z => ha (z.elim .inl fun z => .inr (.inl z)), e⟩)
  exact run

theorem fr_ok {scope : Scope} {ρ0 : Rho} (h : (scope.names.all fun p => p.2 != .free || (ρ0.map (·.1)).contains p.1) = true) : ∀ x, (x, NameKind.free) ∈ scope.names → ∃ d, ρ0.lookup x = some d := fun x hx => by
  have := List.all_eq_true.mp h _ hx
  simp only [bne_self_eq_false, Bool.false_or] at this
  have hm : x ∈ ρ0.map (·.1) := List.contains_iff_mem.mp this
  clear h hx this
  induction ρ0 with
  | nil => simp at hm
  | cons p r ih =>
    obtain ⟨y, d⟩ := p
    by_cases hxy : x = y
    · subst hxy; exact ⟨d, by simp⟩
    · obtain ⟨e, he⟩ := ih (by simpa [hxy] using hm)
      exact ⟨e, by rw [List.lookup_cons, beq_eq_false_iff_ne.mpr hxy]; exact he⟩
theorem cell_ok {scope : Scope} (h : (scope.names.all fun p => p.2 != .cell) = true) : ∀ x ∈ scope.names, x.2 ≠ .cell := fun x hx e => by
  have := List.all_eq_true.mp h _ hx
  rw [e] at this; simp at this
theorem names_ok {scope : Scope} (h : (scope.names.all fun p => p.2 != .local || scope.names.lookup p.1 == some .local) = true) : ∀ x ∈ scope.names, x.2 = .local → scope.names.lookup x.1 = some .local := fun x hx e => by
  have := List.all_eq_true.mp h _ hx
  rw [e] at this; simpa using this

theorem Ev.comp {elt : Expr} {t i : Expr} {fs : List Expr} {gs : List Comprehension} {scope : Scope} {pos : Pos} {ds out : List PyData} (ρ0 : Rho)
    (hi : Ev prog w h₀ n sc ρ i (.list ds)) (C : Cmp prog w h₀ n (relabS scope sc) elt (⟨t, i, fs, 0⟩ :: gs) ρ0 ds out) (hsz : out.length ≤ 2 ^ 20)
    (hcap : Caps ρ scope sc ρ0) (hfr : (scope.names.all fun p => p.2 != .free || (ρ0.map (·.1)).contains p.1) = true := by rfl)
    (hk : scope.kind = .function := by rfl) (hcell : (scope.names.all fun p => p.2 != .cell) = true := by rfl) (hnames : (scope.names.all fun p => p.2 != .local || scope.names.lookup p.1 == some .local) = true := by rfl)
    (hs : ∀ env x, foldedSetIterable i env x = pure x := by intro _ _; rfl) :
    Ev prog w h₀ n sc ρ (.ListComp elt (⟨t, i, fs, 0⟩ :: gs) scope pos) (.list out) := fun A env s H Q E R G S hQ => by
  rw [eval_ListComp]
  refine comp_wp hcap (fr_ok hfr) C hsz hk (cell_ok hcell) (names_ok hnames) R G S (hs env) (fun Q' hq => hi A env s H Q' E R G S hq) fun D Ca h' tk m kk hn hC hD hDC r => ?_
  refine ⟨m, hn, fun h'' hs'' => ?_⟩
  refine hQ _ h'' tk (fun a o e => hs''.extBut a o (fun z => by rw [z, hC] at e; cases e) (kk _ _ e)) (r.imp fun a o ha e => ⟨fun z => ha (.inl z), hs''.extBut a o (fun z => ha (.inr z)) e⟩)

theorem Ex.storeC {y : Str} {py spos} {elt : Expr} {t i : Expr} {fs : List Expr} {gs : List Comprehension} {scope : Scope} {pos : Pos} {ds out : List PyData} (ρ0 : Rho)
    (hi : Ev prog w h₀ n sc ρ i (.list ds)) (C : Cmp prog w h₀ n (relabS scope sc) elt (⟨t, i, fs, 0⟩ :: gs) ρ0 ds out) (hsz : out.length ≤ 2 ^ 20)
    (hcap : Caps ρ scope sc ρ0) (hfr : (scope.names.all fun p => p.2 != .free || (ρ0.map (·.1)).contains p.1) = true := by rfl)
    (hk : scope.kind = .function := by rfl) (hcell : (scope.names.all fun p => p.2 != .cell) = true := by rfl) (hnames : (scope.names.all fun p => p.2 != .local || scope.names.lookup p.1 == some .local) = true := by rfl)
    (hs : ∀ env x, foldedSetIterable i env x = pure x := by intro _ _; rfl)
    (hy : sc.names.lookup y = some .local := by rfl) (hks : sc.kind = .function := by rfl)
    (hline : (py.line == pos.line && !(scope.names.any fun (n, k) => n == y && (k == .local || k == .cell))) = true := by rfl) :
    Ex prog w h₀ n sc ρ (.Assign [.Name y py] (.ListComp elt (⟨t, i, fs, 0⟩ :: gs) scope pos) spos) (.next ((y, .list out) :: ρ)) := fun A env s H Q E R G S hQ => by
  have hsw : swapsWith (.ListComp elt (⟨t, i, fs, 0⟩ :: gs) scope pos) (some (.Name y py)) spos.line env = pure true := by
    show (pure (env.blockKind == .function && env.kindOf y == some .local && py.line == pos.line && !(scope.names.any fun (n, k) => n == y && (k == .local || k == .cell))) : Sem Bool) = pure true
    have e1 : env.blockKind = .function := by rw [Env.blockKind, G.scope, hks]; rfl
    have e2 : env.kindOf y = some .local := by rw [Env.kindOf, G.scope]; exact hy
    rw [e1, e2]
    have := hline
    simp only [Bool.and_eq_true] at this
    simp [this.1, this.2]
  rw [exec_Assign_Name_used _ _ _ _ hsw]
  refine wpAny_bind (wpAny_standAt (wpAny_bind ?_))
  show wpAny _ A (do let _ ← comprehension (.ListComp elt (⟨t, i, fs, 0⟩ :: gs) scope pos) scope env (firstIterPos (⟨t, i, fs, 0⟩ :: gs) pos) (newList []) false (eval i env) (some (PySem.assign (.Name y py) env))) _ _ s
  refine wpAny_bind ?_
  refine comp_wp hcap (fr_ok hfr) C hsz hk (cell_ok hcell) (names_ok hnames) R G S.toSC (hs env) (fun Q' hq => hi A env s H Q' E R G S.toSC hq) fun D Ca h' tk m kk hn hC hD hDC r => ?_
  have nC : ¬ H Ca := S.toSC.new hC
  have nO : ¬ Own env Ca := fun z => nC (S.own _ z)
  have hbC : h₀.get? Ca = Option.none := by
    cases e : h₀.get? Ca with
    | none => rfl
    | some o => have := S.base _ _ e; rw [hC] at this; cases this
  have hr1 : ∀ {v d}, Rd H s.heap v d → Rd (fun a => H a ∨ a = Ca) h' v d := fun r => r.imp fun a o ha e => ⟨(fun z => z.elim ha (fun z => by have e2 := e; rw [z, hC] at e2; cases e2)), kk _ _ e⟩
  have S1 : SS h₀ (fun a => H a ∨ a = Ca) env ρ h' := by
    refine ⟨⟨S.base.trans kk, fun a ha => ?_, ?_⟩, fun a o => .inl (S.own a o), S.fro.keep kk, S.new⟩
    · rcases ha with ha | rfl
      · obtain ⟨o, e⟩ := S.live a ha; exact ⟨o, kk _ _ e⟩
      · obtain ⟨o, _, _, e, _⟩ := hn; exact ⟨o, e⟩
    · obtain ⟨m', hn', hv⟩ := S.loc
      refine ⟨m', hn'.keeps kk, fun x d e => ?_⟩
      rcases hv x d e with ⟨k, v, a, r⟩ | ⟨k, c, v, a, b, r⟩
      · exact .inl ⟨k, v, a, hr1 r⟩
      · exact .inr ⟨k, c, v, a, b.keeps kk, hr1 r⟩
  show wpAny _ A (PySem.assign (.Name y py) env (.ref D)) _ _ _
  refine wpAny_assign_Name (bind_wp (s := { s with heap := h', toks := tk }) G S1 r (.inl hy) hks fun h₂ tk₂ k₂ S2 => ?_)
  refine ⟨m, ?_, fun h₃ hs₃ => ?_⟩
  · obtain ⟨o, es, ep, e, z⟩ := hn
    exact ⟨o, es, ep, k₂ _ _ nO e, z⟩
  · refine wpAny_pure (wpAny_pure ?_)
    refine hQ _ h₃ tk₂ (fun a o na e => hs₃.extBut a o (fun z => by rw [z, hC] at e; cases e) (k₂ a o na (kk _ _ e))) ⟨rfl, ?_⟩
    exact S2.step (HT := H) hs₃.extBut (.inr rfl) nO hbC (fun _ z => .inl z) S.own fun a ha => by
      obtain ⟨o, e⟩ := S2.live a (.inl ha)
      exact ⟨o, hs₃.extBut a o (fun z => nC (z ▸ ha)) e⟩
end
end Mine

namespace Mine

section
variable {prog : Program} {w : World} {h₀ : Heap} {mg mb : Str → Option Value} {n : Nat} {sc : Scope} {ρ : Rho}

/-! two lists joined -/
theorem Ev.cat {l r : Expr} {pos} {ds es : List PyData} (hl : Ev prog w h₀ n sc ρ l (.list ds)) (hr : Ev prog w h₀ n sc ρ r (.list es)) (hsz : ds.length + es.length ≤ 2 ^ 20) :
    Ev prog w h₀ n sc ρ (.BinOp l .Add r pos) (.list (ds ++ es)) :=
  fun A env s H Q E R G S hQ => wpAny_BinOp (ev_two hl hr R G S fun v u h' tk k ra rb S' => by
    cases ra with
    | @list a o vs c xs ha ho hc hd qa =>
      cases rb with
      | @list b o2 ws c2 ys hb ho2 hc2 hd2 qb =>
        obtain ⟨cls, dd, data, sl⟩ := o
        obtain ⟨cls2, dd2, data2, sl2⟩ := o2
        simp only at hc hd hc2 hd2
        subst hc hd hc2 hd2
        have hlen : vs.size + ws.size ≤ sizeLine := by
          have e1 := qa.length
          have e2 := qb.length
          simp at e1 e2
          rw [sizeLine_eq]; omega
        refine concat_meets (s := { s with heap := h', toks := tk }) ⟨_, ho, rfl⟩ ⟨_, ho2, rfl⟩ noFill_list_add seq_list_add PySem.F.slot_list_add PySem.F.entry_list_add (PySem.F.args_list_add_2 _ _) (list_addW a b vs ws c c2 dd dd2 sl sl2 hlen) ⟨ho, ho2, ?_⟩
        refine hQ _ _ tk (k.trans (Kp.push _ _)) ?_
        refine .list (S'.new (get?_size h')) (Heap.get?_push_size _ rfl) rfl rfl ?_
        have := (qa.append qb).keep (Kp.push h' { cls := .type "list", data := .seq (vs ++ ws) })
        simpa using this)

/-! an item of a written dict of texts -/
def tv : List (Str × Str) → List Tok → List (Str × Value)
  | [], _ => []
  | _ :: _, [] => []
  | (a, b) :: r, t :: ts => (a, .str b t) :: tv r ts

inductive DP (prog : Program) (w : World) (h₀ : Heap) (n : Nat) (sc : Scope) (ρ : Rho) : List (Option Expr) → List Expr → List (Str × Str) → Prop
  | nil : DP prog w h₀ n sc ρ [] [] []
  | cons {k v : Expr} {ks : List (Option Expr)} {vs : List Expr} {a b : Str} {P : List (Str × Str)} : Ev prog w h₀ n sc ρ k (.str a) → Ev prog w h₀ n sc ρ v (.str b) → DP prog w h₀ n sc ρ ks vs P → DP prog w h₀ n sc ρ (some k :: ks) (v :: vs) ((a, b) :: P)

def prs (env : Env) (pos : Pos) : List (Option Expr) → List Expr → List (Sem Value × Sem Value)
  | some k :: ks, v :: vs => (eval k env, do let x ← eval v env; standAt pos; pure x) :: prs env pos ks vs
  | _, _ => []

theorem prs_shape {keys : List (Option Expr)} {values : List Expr} {P : List (Str × Str)} (h : DP prog w h₀ n sc ρ keys values P) (env : Env) (pos : Pos) :
    (evalEachOpt keys env).zip ((evalEach values env).map fun v => do let x ← v; standAt pos; pure x) = (prs env pos keys values).map fun p => (some p.1, p.2) := by
  induction h with
  | nil => rfl
  | cons _ _ _ ih => exact congrArg (List.cons _) ih
theorem prs_len {keys : List (Option Expr)} {values : List Expr} {P : List (Str × Str)} (h : DP prog w h₀ n sc ρ keys values P) (env : Env) (pos : Pos) : (prs env pos keys values).length = P.length := by
  induction h with
  | nil => rfl
  | cons _ _ _ ih => exact congrArg (· + 1) ih

theorem pairs_wp {pos : Pos} {keys : List (Option Expr)} {values : List Expr} {P : List (Str × Str)} (h : DP prog w h₀ n sc ρ keys values P) :
    ∀ {A : Around} {env : Env} {s : Shared} {H : Addr → Prop} {Q : List (Value × Value) → Shared → Prop} {E : Value → Shared → Prop}, Rm n A → EnvG sc env → SC h₀ H env ρ s.heap →
      (∀ vs ts h' tk, Kp s.heap h' → ts.length = P.length → Carries (strKind prog w) vs (tv P ts) → Q vs { s with heap := h', toks := tk }) →
      wpAny (model prog w) A (evalPairs (prs env pos keys values)) Q E s := by
  induction h with
  | nil => exact fun R G S hQ => evalPairs_nil (hQ [] [] _ _ (Kp.refl _) rfl True.intro)
  | @cons ek ev ks vs a b P hk hv _ ih =>
    intro A env s H Q E R G S hQ
    refine evalPairs_cons (hk A env s H _ E R G S fun v h₁ t₁ k₁ r₁ => ?_)
    obtain ⟨tk, rfl⟩ := r₁.isStr
    refine wpAny_bind (hv A env _ H _ E R G (S.keep k₁) fun u h₂ t₂ k₂ r₂ => wpAny_bind (wpAny_standAt (wpAny_pure ?_)))
    obtain ⟨tk', rfl⟩ := r₂.isStr
    refine ih R G ((S.keep k₁).keep k₂) fun vs ts h₃ t₃ k₃ hts hc => ?_
    refine hQ _ (tk' :: ts) h₃ t₃ ((k₁.trans k₂).trans k₃) (by simp [hts]) ⟨?_, rfl, hc⟩
    exact strKind_is prog w a tk

theorem Ev.dictItem {keys : List (Option Expr)} {values : List Expr} {pos pos2 : Pos} {ke : Expr} {x y : Str} {P : List (Str × Str)}
    (h : DP prog w h₀ n sc ρ keys values P) (hne : P ≠ []) (hl15 : P.length ≤ 15)
    (hk : Ev prog w h₀ n sc ρ ke (.str x)) (hv : ∀ ts : List Tok, ts.length = P.length → ∃ t, valueAt (merged [] (tv P ts)) x = some (.str y t))
    (hs : ∀ o i' t, subscripted ke false (.ref o) (.str i' t) = operate [.ref o, .str i' t] (getItem (.ref o) (.str i' t)) := by intro _ _ _; with_unfolding_all rfl) :
    Ev prog w h₀ n sc ρ (.Subscript (.Dict keys values pos) ke pos2) (.str y) := fun A env s H Q E R G S hQ => by
  have hlen := prs_len h env pos
  refine Subscript_ (wpAny_Dict_pairs (knd := strKind prog w) (prs_shape h env pos) (fun e => hne (List.eq_nil_of_length_eq_zero (by rw [← hlen, e]; rfl))) (by omega) ?_)
  have k0 : Kp s.heap (s.heap.push { cls := .type "dict", data := .dict #[] }) := Kp.push _ _
  generalize hd : s.heap.objs.size = dA
  have hdn : s.heap.get? dA = Option.none := hd ▸ get?_size _
  refine pairs_wp (s := { s with heap := s.heap.push { cls := .type "dict", data := .dict #[] } }) h R G (S.keep k0) fun vs ts h' tk k hts hc => ?_
  refine ⟨tv P ts, hc, ?_, fun h'' hD hsb => ?_⟩
  · have := (Heap.DictOf.new (knd := strKind prog w) s.heap).keep k
    rwa [hd] at this
  · have kk : Kp s.heap h'' := fun a o e => hsb.extBut a o (fun z => by rw [z, hdn] at e; cases e) (k _ _ (k0 _ _ e))
    refine hk A env _ H _ E R G (S.keep kk) fun v h3 tk3 k3 r3 => ?_
    obtain ⟨t, rfl⟩ := r3.isStr
    obtain ⟨t', hv'⟩ := hv ts hts
    have hD3 := hD.keep k3
    exact tail_any (s := { s with heap := h3, toks := tk3 }) (T := "dict") hD3.typeIs slot_dict_getitem.lookup (wpAny_getItem_of (strKind_is prog w x t) hD3.mapOf hv' (hQ _ h3 _ (kk.trans k3) (.str _ _))) (hs _ _ _)
end
end Mine

namespace Mine
abbrev pg : Program := PySem.Challenge.pw_pq0741_01
abbrev tI (a b : Int) : PyData := .tuple [.int a, .int b]

section
variable {prog : Program} {w : World} {h₀ : Heap} {mg mb : Str → Option Value} {n : Nat} {sc : Scope} {ρ : Rho}
theorem Ev.to {e : Expr} {d d' : PyData} (h : Ev prog w h₀ n sc ρ e d) (he : d = d') : Ev prog w h₀ n sc ρ e d' := he ▸ h
theorem Te.to {e : Expr} {d d' : Bool} (h : Te prog w h₀ n sc ρ e d) (he : d = d') : Te prog w h₀ n sc ρ e d' := he ▸ h
theorem CmpD.to {op : CmpOp} {a b : PyData} {c c' : Bool} (h : CmpD op a b c) (he : c = c') : CmpD op a b c' := he ▸ h
theorem CmpD.same {d : PyData} (h : SeqAt.shaped d = true) : CmpD .Eq d d true := (CmpD.eq h h).to (SeqAt.eqv_refl d (SeqAt.canLay_of_shaped h))
theorem CmpD.unsame {d : PyData} (h : SeqAt.shaped d = true) : CmpD .NotEq d d false := (CmpD.ne h h).to (by rw [SeqAt.eqv_refl d (SeqAt.canLay_of_shaped h)]; rfl)
theorem shI (a : Int) : SeqAt.shaped (.int a) = true := by simp [SeqAt.shaped, PyData.canLay0, PyData.depth]
theorem shB (a : Bool) : SeqAt.shaped (.bool a) = true := by simp [SeqAt.shaped, PyData.canLay0, PyData.depth]
theorem shN : SeqAt.shaped .none = true := by simp [SeqAt.shaped, PyData.canLay0, PyData.depth]
theorem shT (a b : Int) : SeqAt.shaped (tI a b) = true := by simp [SeqAt.shaped, PyData.canLay0, PyData.canLayAll0, PyData.depth, PyData.depthAll]
theorem shTB (a b : Int) (c : Bool) : SeqAt.shaped (.tuple [tI a b, .bool c]) = true := by simp [SeqAt.shaped, PyData.canLay0, PyData.canLayAll0, PyData.depth, PyData.depthAll]
theorem shTT (a b c d : Int) : SeqAt.shaped (.tuple [tI a b, tI c d]) = true := by simp [SeqAt.shaped, PyData.canLay0, PyData.canLayAll0, PyData.depth, PyData.depthAll]
theorem eqvI (a b : Int) : PyData.eqv (.int a) (.int b) = (a == b) := by simp [PyData.eqv]
theorem eqvT (a b c d : Int) : PyData.eqv (tI a b) (tI c d) = (a == c && b == d) := by simp [PyData.eqv, PyData.eqvAll]
theorem CmpD.eqI (a b : Int) : CmpD .Eq (.int a) (.int b) (a == b) := (CmpD.eq (shI a) (shI b)).to (eqvI a b)
theorem CmpD.eqT (a b c d : Int) : CmpD .Eq (tI a b) (tI c d) (a == c && b == d) := (CmpD.eq (shT a b) (shT c d)).to (eqvT a b c d)
theorem CmpD.eqB (a b : Bool) : CmpD .Eq (.bool a) (.bool b) (a == b) := (CmpD.eq (shB a) (shB b)).to (by simp [PyData.eqv])
theorem CmpD.neB (a b : Bool) : CmpD .NotEq (.bool a) (.bool b) (a != b) := (CmpD.ne (shB a) (shB b)).to (by simp [PyData.eqv, bne])
theorem CmpD.eqS {a b : Str} (ha : PyData.strOk a = true) (hb : PyData.strOk b = true) : CmpD .Eq (.str a) (.str b) (a == b) :=
  (CmpD.eq (by simp [SeqAt.shaped, PyData.canLay0, PyData.depth, ha]) (by simp [SeqAt.shaped, PyData.canLay0, PyData.depth, hb])).to (by simp [PyData.eqv])
end

section
variable {w : World} {h₀ : Heap} {mg mb : Str → Option Value} {n : Nat}

theorem full_spec (X : Ground h₀ mg mb) : Fn pg w h₀ mg 1 3 [] (tI (-2147483648) 2147483647) := by
  refine Fn.intro (ps := []) X ?_ ?_ ?_ ?_ rfl ?_
  · exact Exs.ret (Ex.ret (Ev.tuple (Evs.cons (Ev.glob X X.least) (Evs.cons (Ev.glob X X.greatest) Evs.nil))))
  · intro pm cd doc vs hv
    match vs, hv with
    | [], _ => rfl
  · intro x hx; cases hx
  · exact List.nodup_nil
  · decide +kernel

theorem clipped_spec (X : Ground h₀ mg mb) {l r : Int} (h1 : (-2147483648) ≤ l) (h2 : l ≤ r) (h3 : r ≤ 2147483647) : Fn pg w h₀ mg 1 4 [.int l, .int r] (.tuple [tI l r, .bool false]) := by
  refine Fn.intro (ps := ["low", "high"]) X ?_ ?_ ?_ ?_ rfl ?_
  · refine Exs.cons (Ex.store (d := .bool false) (Ev.or2 (b := false) ((Ev.cmp (Ev.name rfl) (Ev.glob X X.least) (CmpD.lt _ _)).to ?_) (fun _ => (Ev.cmp (Ev.name rfl) (Ev.glob X X.greatest) (CmpD.gt _ _)).to ?_) (by simp))) ?_
    · exact congrArg PyData.bool (decide_eq_false (by omega))
    · exact congrArg PyData.bool (decide_eq_false (by omega))
    refine Exs.cons (Ex.store (d := .int l) ((Ev.blt X (Evs.cons (Ev.name rfl) (Evs.cons (Ev.glob X X.least) Evs.nil)) Ca.max2).to (congrArg PyData.int (by omega)))) ?_
    refine Exs.cons (Ex.store (d := .int r) ((Ev.blt X (Evs.cons (Ev.name rfl) (Evs.cons (Ev.glob X X.greatest) Evs.nil)) Ca.min2).to (congrArg PyData.int (by omega)))) ?_
    refine Exs.cons (Ex.ifT (c := false) ((Te.cmp (Ev.name rfl) (Ev.name rfl) (CmpD.gt _ _)).to (decide_eq_false (by omega))) (by simp) (fun _ => Exs.nil)) ?_
    exact Exs.ret (Ex.ret (Ev.tuple (Evs.cons (Ev.tuple (Evs.cons (Ev.name rfl) (Evs.cons (Ev.name rfl) Evs.nil))) (Evs.cons (Ev.name rfl) Evs.nil))))
  · intro pm cd doc vs hv
    match vs, hv with
    | [_, _], _ => rfl
  · decide +kernel
  · decide +kernel
  · decide +kernel

theorem add_spec (X : Ground h₀ mg mb) {a b c d : Int} (h1 : (-2147483648) ≤ a + c) (h2 : a + c ≤ b + d) (h3 : b + d ≤ 2147483647) : Fn pg w h₀ mg 2 5 [tI a b, tI c d] (.tuple [tI (a + c) (b + d), .bool false]) := by
  refine Fn.intro (ps := ["x", "y"]) X ?_ ?_ ?_ ?_ rfl ?_
  · exact Exs.ret (Ex.ret (Ev.dcall 4 X (Evs.cons (Ev.add (Ev.item (Ev.name rfl)) (Ev.item (Ev.name rfl))) (Evs.cons (Ev.add (Ev.item (Ev.name rfl)) (Ev.item (Ev.name rfl))) Evs.nil)) (clipped_spec X h1 h2 h3)))
  · intro pm cd doc vs hv
    match vs, hv with
    | [_, _], _ => rfl
  · decide +kernel
  · decide +kernel
  · decide +kernel

theorem sub_spec (X : Ground h₀ mg mb) {a b c d : Int} (h1 : (-2147483648) ≤ a - d) (h2 : a - d ≤ b - c) (h3 : b - c ≤ 2147483647) : Fn pg w h₀ mg 2 6 [tI a b, tI c d] (.tuple [tI (a - d) (b - c), .bool false]) := by
  refine Fn.intro (ps := ["x", "y"]) X ?_ ?_ ?_ ?_ rfl ?_
  · exact Exs.ret (Ex.ret (Ev.dcall 4 X (Evs.cons (Ev.sub (Ev.item (Ev.name rfl)) (Ev.item (Ev.name rfl))) (Evs.cons (Ev.sub (Ev.item (Ev.name rfl)) (Ev.item (Ev.name rfl))) Evs.nil)) (clipped_spec X h1 h2 h3)))
  · intro pm cd doc vs hv
    match vs, hv with
    | [_, _], _ => rfl
  · decide +kernel
  · decide +kernel
  · decide +kernel

theorem mulOk {a b : Int} (h1 : -1000 ≤ a) (h2 : a ≤ 1000) : IntMulOk a b := PySem.IntMulOk.of_left (PySem.intBits_le_64 (by omega) (by omega))

theorem mul_spec (X : Ground h₀ mg mb) {a b c d m M : Int} (ha : -1000 ≤ a) (ha' : a ≤ 1000) (hb : -1000 ≤ b) (hb' : b ≤ 1000) (hm : IsMin [a * c, a * d, b * c, b * d] m) (hM : IsMax [a * c, a * d, b * c, b * d] M) (h1 : (-2147483648) ≤ m) (h3 : M ≤ 2147483647) :
    Fn pg w h₀ mg 2 7 [tI a b, tI c d] (.tuple [tI m M, .bool false]) := by
  refine Fn.intro (ps := ["x", "y"]) X ?_ ?_ ?_ ?_ rfl ?_
  · refine Exs.cons (Ex.store (d := .list ([a * c, a * d, b * c, b * d].map .int)) (Ev.list (Evs.cons (Ev.mul (Ev.item (Ev.name rfl)) (Ev.item (Ev.name rfl)) (mulOk ha ha')) (Evs.cons (Ev.mul (Ev.item (Ev.name rfl)) (Ev.item (Ev.name rfl)) (mulOk ha ha'))
      (Evs.cons (Ev.mul (Ev.item (Ev.name rfl)) (Ev.item (Ev.name rfl)) (mulOk hb hb')) (Evs.cons (Ev.mul (Ev.item (Ev.name rfl)) (Ev.item (Ev.name rfl)) (mulOk hb hb')) Evs.nil)))))) ?_
    exact Exs.ret (Ex.ret (Ev.dcall 4 X (Evs.cons (Ev.blt X (Evs.cons (Ev.name rfl) Evs.nil) (Ca.minL hm)) (Evs.cons (Ev.blt X (Evs.cons (Ev.name rfl) Evs.nil) (Ca.maxL hM)) Evs.nil)) (clipped_spec X h1 (hM.2 _ hm.1) h3)))
  · intro pm cd doc vs hv
    match vs, hv with
    | [_, _], _ => rfl
  · decide +kernel
  · decide +kernel
  · decide +kernel

theorem neg_spec (X : Ground h₀ mg mb) {a b : Int} (h1 : (-2147483648) ≤ 0 - b) (h2 : a ≤ b) (h3 : 0 - a ≤ 2147483647) : Fn pg w h₀ mg 2 8 [tI a b] (.tuple [tI (0 - b) (0 - a), .bool false]) := by
  refine Fn.intro (ps := ["x"]) X ?_ ?_ ?_ ?_ rfl ?_
  · exact Exs.ret (Ex.ret (Ev.dcall 4 X (Evs.cons (Ev.sub Ev.int (Ev.item (Ev.name rfl))) (Evs.cons (Ev.sub Ev.int (Ev.item (Ev.name rfl))) Evs.nil)) (clipped_spec X h1 (by omega) h3)))
  · intro pm cd doc vs hv
    match vs, hv with
    | [_], _ => rfl
  · decide +kernel
  · decide +kernel
  · decide +kernel

/-- the least interval of the absolute values -/
def absLo (a b : Int) : Int := if 0 ≤ a then a else if b ≤ 0 then 0 - b else 0
def absHi (a b : Int) : Int := if 0 ≤ a then b else if b ≤ 0 then 0 - a else max (0 - a) b

theorem absolute_spec (X : Ground h₀ mg mb) {a b : Int} (h1 : -1000 ≤ a) (h2 : a ≤ b) (h3 : b ≤ 1000) : Fn pg w h₀ mg 3 9 [tI a b] (.tuple [tI (absLo a b) (absHi a b), .bool false]) := by
  refine Fn.intro (ps := ["x"]) X ?_ ?_ ?_ ?_ rfl ?_
  · by_cases c1 : 0 ≤ a
    · refine Exs.ret (Ex.ifT (c := true) ((Te.cmp (Ev.item (Ev.name rfl)) Ev.int (CmpD.ge _ _)).to (decide_eq_true c1)) (fun _ => Exs.ret (Ex.ret ?_)) (by simp))
      refine (Ev.tuple (Evs.cons (Ev.name rfl) (Evs.cons Ev.bool Evs.nil))).to ?_
      simp [absLo, absHi, c1]
    refine Exs.cons (Ex.ifT (c := false) ((Te.cmp (Ev.item (Ev.name rfl)) Ev.int (CmpD.ge _ _)).to (decide_eq_false c1)) (by simp) (fun _ => Exs.nil)) ?_
    by_cases c2 : b ≤ 0
    · refine Exs.ret (Ex.ifT (c := true) ((Te.cmp (Ev.item (Ev.name rfl)) Ev.int (CmpD.le _ _)).to (decide_eq_true c2)) (fun _ => Exs.ret (Ex.ret ?_)) (by simp))
      refine (Ev.dcall 8 X (Evs.cons (Ev.name rfl) Evs.nil) (neg_spec X (by omega) h2 (by omega))).to ?_
      simp [absLo, absHi, c1, c2]
    refine Exs.cons (Ex.ifT (c := false) ((Te.cmp (Ev.item (Ev.name rfl)) Ev.int (CmpD.le _ _)).to (decide_eq_false c2)) (by simp) (fun _ => Exs.nil)) ?_
    refine Exs.ret (Ex.ret ((Ev.dcall 4 X (Evs.cons Ev.int (Evs.cons (Ev.blt X (Evs.cons (Ev.sub Ev.int (Ev.item (Ev.name rfl))) (Evs.cons (Ev.item (Ev.name rfl)) Evs.nil)) Ca.max2) Evs.nil)) ((clipped_spec X (by omega) (by omega) (by omega)).mono (by decide))).to ?_))
    simp [absLo, absHi, c1, c2]
  · intro pm cd doc vs hv
    match vs, hv with
    | [_], _ => rfl
  · decide +kernel
  · decide +kernel
  · decide +kernel

theorem div_neg_spec (X : Ground h₀ mg mb) {a b c d : Int} (hd : d ≤ 0) (hcd : c ≤ d) : Fn pg w h₀ mg 2 10 [tI a b, tI c d] (.tuple [tI (-2147483648) 2147483647, .bool true]) := by
  refine Fn.intro (ps := ["x", "y"]) X ?_ ?_ ?_ ?_ rfl ?_
  · refine Exs.cons (Ex.store (Ev.cmp (Ev.item (Ev.name rfl)) Ev.int (CmpD.le _ _))) ?_
    refine Exs.ret (Ex.ifT (c := true) ((Te.cmp (Ev.item (Ev.name rfl)) Ev.int (CmpD.le _ _)).to (decide_eq_true hd)) (fun _ => Exs.ret (Ex.ret ?_)) (by simp))
    exact Ev.tuple (Evs.cons (Ev.dcall0 3 X (full_spec X)) (Evs.cons Ev.bool Evs.nil))
  · intro pm cd doc vs hv
    match vs, hv with
    | [_, _], _ => rfl
  · decide +kernel
  · decide +kernel
  · decide +kernel

theorem div_spec (X : Ground h₀ mg mb) {a b c d m M : Int} (hd : 0 < d) (hd' : d ≤ 1000) (hcd : c ≤ d)
    (hm : IsMin [a.fdiv (max c 1), a.fdiv d, b.fdiv (max c 1), b.fdiv d] m) (hM : IsMax [a.fdiv (max c 1), a.fdiv d, b.fdiv (max c 1), b.fdiv d] M) :
    Fn pg w h₀ mg 1 10 [tI a b, tI c d] (.tuple [tI m M, .bool (decide (c ≤ 0))]) := by
  refine Fn.intro (ps := ["x", "y"]) X ?_ ?_ ?_ ?_ rfl ?_
  · refine Exs.cons (Ex.store (Ev.cmp (Ev.item (Ev.name rfl)) Ev.int (CmpD.le _ _))) ?_
    refine Exs.cons (Ex.ifT (c := false) ((Te.cmp (Ev.item (Ev.name rfl)) Ev.int (CmpD.le _ _)).to (decide_eq_false (by omega))) (by simp) (fun _ => Exs.nil)) ?_
    refine Exs.cons (Ex.store (Ev.blt X (Evs.cons (Ev.item (Ev.name rfl)) (Evs.cons Ev.int Evs.nil)) Ca.max2)) ?_
    have n1 : max c 1 ≠ 0 := by omega
    have n2 : (max c 1).natAbs < 1073741824 := by omega
    have n3 : d ≠ 0 := by omega
    have n4 : d.natAbs < 1073741824 := by omega
    refine Exs.cons (Ex.store (d := .list ([a.fdiv (max c 1), a.fdiv d, b.fdiv (max c 1), b.fdiv d].map .int)) (Ev.list (Evs.cons (Ev.div (Ev.item (Ev.name rfl)) (Ev.name rfl) n1 n2) (Evs.cons (Ev.div (Ev.item (Ev.name rfl)) (Ev.item (Ev.name rfl)) n3 n4)
      (Evs.cons (Ev.div (Ev.item (Ev.name rfl)) (Ev.name rfl) n1 n2) (Evs.cons (Ev.div (Ev.item (Ev.name rfl)) (Ev.item (Ev.name rfl)) n3 n4) Evs.nil)))))) ?_
    exact Exs.ret (Ex.ret (Ev.tuple (Evs.cons (Ev.tuple (Evs.cons (Ev.blt X (Evs.cons (Ev.name rfl) Evs.nil) (Ca.minL hm)) (Evs.cons (Ev.blt X (Evs.cons (Ev.name rfl) Evs.nil) (Ca.maxL hM)) Evs.nil))) (Evs.cons (Ev.name rfl) Evs.nil))))
  · intro pm cd doc vs hv
    match vs, hv with
    | [_, _], _ => rfl
  · decide +kernel
  · decide +kernel
  · decide +kernel
end
end Mine

namespace Mine

section
variable {w : World} {h₀ : Heap} {mg mb : Str → Option Value} {n : Nat}

theorem within_spec (X : Ground h₀ mg mb) {a b c d : Int} : Fn pg w h₀ mg 1 11 [tI a b, tI c d] (.bool (decide (c ≤ a) && decide (b ≤ d))) := by
  refine Fn.intro (ps := ["x", "y"]) X ?_ ?_ ?_ ?_ rfl ?_
  · refine Exs.ret (Ex.ret (Ev.and2 (Ev.cmp (Ev.item (Ev.name rfl)) (Ev.item (Ev.name rfl)) (CmpD.le _ _)) (fun h => (Ev.cmp (Ev.item (Ev.name rfl)) (Ev.item (Ev.name rfl)) (CmpD.le _ _)).to ?_) ?_))
    · rw [h]; rfl
    · intro h; rw [h]; rfl
  · intro pm cd doc vs hv
    match vs, hv with
    | [_, _], _ => rfl
  · decide +kernel
  · decide +kernel
  · decide +kernel

theorem join_spec (X : Ground h₀ mg mb) {a b c d : Int} : Fn pg w h₀ mg 1 12 [tI a b, tI c d] (tI (min a c) (max b d)) := by
  refine Fn.intro (ps := ["x", "y"]) X ?_ ?_ ?_ ?_ rfl ?_
  · exact Exs.ret (Ex.ret (Ev.tuple (Evs.cons (Ev.blt X (Evs.cons (Ev.item (Ev.name rfl)) (Evs.cons (Ev.item (Ev.name rfl)) Evs.nil)) Ca.min2) (Evs.cons (Ev.blt X (Evs.cons (Ev.item (Ev.name rfl)) (Evs.cons (Ev.item (Ev.name rfl)) Evs.nil)) Ca.max2) Evs.nil))))
  · intro pm cd doc vs hv
    match vs, hv with
    | [_, _], _ => rfl
  · decide +kernel
  · decide +kernel
  · decide +kernel

theorem widen_spec (X : Ground h₀ mg mb) {a b c d : Int} : Fn pg w h₀ mg 1 13 [tI a b, tI c d] (tI (if a ≤ c then a else -2147483648) (if d ≤ b then b else 2147483647)) := by
  refine Fn.intro (ps := ["older", "newer"]) X ?_ ?_ ?_ ?_ rfl ?_
  · refine Exs.cons (Ex.store (d := .int (if a ≤ c then a else -2147483648)) (Ev.ite (Te.cmp (Ev.item (Ev.name rfl)) (Ev.item (Ev.name rfl)) (CmpD.ge _ _)) (fun h => (Ev.item (Ev.name rfl)).to ?_) (fun h => (Ev.glob X X.least).to ?_))) ?_
    · rw [if_pos (of_decide_eq_true h)]
    · rw [if_neg (of_decide_eq_false h)]
    refine Exs.cons (Ex.store (d := .int (if d ≤ b then b else 2147483647)) (Ev.ite (Te.cmp (Ev.item (Ev.name rfl)) (Ev.item (Ev.name rfl)) (CmpD.le _ _)) (fun h => (Ev.item (Ev.name rfl)).to ?_) (fun h => (Ev.glob X X.greatest).to ?_))) ?_
    · rw [if_pos (of_decide_eq_true h)]
    · rw [if_neg (of_decide_eq_false h)]
    exact Exs.ret (Ex.ret (Ev.tuple (Evs.cons (Ev.name rfl) (Evs.cons (Ev.name rfl) Evs.nil))))
  · intro pm cd doc vs hv
    match vs, hv with
    | [_, _], _ => rfl
  · decide +kernel
  · decide +kernel
  · decide +kernel

def meetD (a b c d : Int) : PyData := if max a c ≤ min b d then tI (max a c) (min b d) else .none

theorem meet_spec (X : Ground h₀ mg mb) {a b c d : Int} : Fn pg w h₀ mg 1 14 [tI a b, tI c d] (meetD a b c d) := by
  refine Fn.intro (ps := ["x", "y"]) X ?_ ?_ ?_ ?_ rfl ?_
  · refine Exs.cons (Ex.store (Ev.blt X (Evs.cons (Ev.item (Ev.name rfl)) (Evs.cons (Ev.item (Ev.name rfl)) Evs.nil)) Ca.max2)) ?_
    refine Exs.cons (Ex.store (Ev.blt X (Evs.cons (Ev.item (Ev.name rfl)) (Evs.cons (Ev.item (Ev.name rfl)) Evs.nil)) Ca.min2)) ?_
    by_cases hc : max a c ≤ min b d
    · refine Exs.cons (Ex.ifT (c := false) ((Te.cmp (Ev.name rfl) (Ev.name rfl) (CmpD.gt _ _)).to (decide_eq_false (by omega))) (by simp) (fun _ => Exs.nil)) ?_
      refine Exs.ret (Ex.ret ((Ev.tuple (Evs.cons (Ev.name rfl) (Evs.cons (Ev.name rfl) Evs.nil))).to ?_))
      unfold meetD; rw [if_pos hc]
    · refine Exs.ret (Ex.ifT (c := true) ((Te.cmp (Ev.name rfl) (Ev.name rfl) (CmpD.gt _ _)).to (decide_eq_true (by omega))) (fun _ => Exs.ret (Ex.ret (Ev.none.to ?_))) (by simp))
      unfold meetD; rw [if_neg hc]
  · intro pm cd doc vs hv
    match vs, hv with
    | [_, _], _ => rfl
  · decide +kernel
  · decide +kernel
  · decide +kernel

def belowD (a b c d g : Int) : PyData := if a + g ≤ d then .tuple [tI a (min b (d - g)), tI (max c (a + g)) d] else .none

theorem below_spec (X : Ground h₀ mg mb) {a b c d g : Int} (h1 : -1000 ≤ a) (h2 : a ≤ b) (h3 : b ≤ 1000) (h4 : -1000 ≤ c) (h5 : c ≤ d) (h6 : d ≤ 1000) (h7 : 0 ≤ g) (h8 : g ≤ 1) :
    Fn pg w h₀ mg 2 15 [tI a b, tI c d, .int g] (belowD a b c d g) := by
  refine Fn.intro (ps := ["x", "y", "gap"]) X ?_ ?_ ?_ ?_ rfl ?_
  · refine Exs.cons (Ex.ifT (c := false) (Te.or (Ors.go ((Te.cmp (Ev.sub (Ev.item (Ev.name rfl)) (Ev.name rfl)) (Ev.glob X X.least) (CmpD.lt _ _)).to (decide_eq_false (by omega)))
      (Ors.go ((Te.cmp (Ev.add (Ev.item (Ev.name rfl)) (Ev.name rfl)) (Ev.glob X X.greatest) (CmpD.gt _ _)).to (decide_eq_false (by omega))) Ors.nil))) (by simp) (fun _ => Exs.nil)) ?_
    refine Exs.cons (Ex.store (Ev.dcall 14 X (Evs.cons (Ev.name rfl) (Evs.cons (Ev.tuple (Evs.cons (Ev.glob X X.least) (Evs.cons (Ev.sub (Ev.item (Ev.name rfl)) (Ev.name rfl)) Evs.nil))) Evs.nil)) (meet_spec X))) ?_
    refine Exs.cons (Ex.store (Ev.dcall 14 X (Evs.cons (Ev.name rfl) (Evs.cons (Ev.tuple (Evs.cons (Ev.add (Ev.item (Ev.name rfl)) (Ev.name rfl)) (Evs.cons (Ev.glob X X.greatest) Evs.nil))) Evs.nil)) (meet_spec X))) ?_
    by_cases hc : a + g ≤ d
    · have e1 : meetD a b (-2147483648) (d - g) = tI a (min b (d - g)) := by
        unfold meetD; rw [if_pos (by omega), Int.max_eq_left (by omega)]
      have e2 : meetD c d (a + g) 2147483647 = tI (max c (a + g)) d := by
        unfold meetD; rw [if_pos (by omega), Int.min_eq_left (by omega)]
      rw [e1, e2]
      refine Exs.cons (Ex.ifT (c := false) (Te.or (Ors.go (Te.cmp (Ev.name rfl) Ev.none (CmpD.isNone rfl)) (Ors.go (Te.cmp (Ev.name rfl) Ev.none (CmpD.isNone rfl)) Ors.nil))) (by simp) (fun _ => Exs.nil)) ?_
      refine Exs.ret (Ex.ret ((Ev.tuple (Evs.cons (Ev.name rfl) (Evs.cons (Ev.name rfl) Evs.nil))).to ?_))
      unfold belowD; rw [if_pos hc]
    · have e1 : meetD a b (-2147483648) (d - g) = .none := by unfold meetD; rw [if_neg (by omega)]
      rw [e1]
      refine Exs.ret (Ex.ifT (c := true) (Te.or (Ors.yes (Te.cmp (Ev.name rfl) Ev.none (CmpD.isNone rfl)))) (fun _ => Exs.ret (Ex.ret (Ev.none.to ?_))) (by simp))
      unfold belowD; rw [if_neg hc]
  · intro pm cd doc vs hv
    match vs, hv with
    | [_, _, _], _ => rfl
  · decide +kernel
  · decide +kernel
  · decide +kernel

def withoutD (a b k : Int) : PyData := if a = k ∧ b = k then .none else if a = k then tI (k + 1) b else if b = k then tI a (k - 1) else tI a b

theorem without_spec (X : Ground h₀ mg mb) {a b k : Int} : Fn pg w h₀ mg 1 16 [tI a b, .int k] (withoutD a b k) := by
  refine Fn.intro (ps := ["x", "n"]) X ?_ ?_ ?_ ?_ rfl ?_
  · by_cases ha : a = k
    · by_cases hb : b = k
      · refine Exs.ret (Ex.ifT (c := true) (Te.and (Ands.go ((Te.cmp (Ev.item (Ev.name rfl)) (Ev.name rfl) (CmpD.eqI _ _)).to (by simpa using ha)) (Ands.go ((Te.cmp (Ev.item (Ev.name rfl)) (Ev.name rfl) (CmpD.eqI _ _)).to (by simpa using hb)) Ands.nil))) (fun _ => Exs.ret (Ex.ret (Ev.none.to ?_))) (by simp))
        unfold withoutD; rw [if_pos ⟨ha, hb⟩]
      · refine Exs.cons (Ex.ifT (c := false) (Te.and (Ands.go ((Te.cmp (Ev.item (Ev.name rfl)) (Ev.name rfl) (CmpD.eqI _ _)).to (by simpa using ha)) (Ands.no ((Te.cmp (Ev.item (Ev.name rfl)) (Ev.name rfl) (CmpD.eqI _ _)).to (by simpa using hb))))) (by simp) (fun _ => Exs.nil)) ?_
        refine Exs.ret (Ex.ifT (c := true) ((Te.cmp (Ev.item (Ev.name rfl)) (Ev.name rfl) (CmpD.eqI _ _)).to (by simpa using ha)) (fun _ => Exs.ret (Ex.ret ((Ev.tuple (Evs.cons (Ev.add (Ev.name rfl) Ev.int) (Evs.cons (Ev.item (Ev.name rfl)) Evs.nil))).to ?_))) (by simp))
        unfold withoutD; rw [if_neg (by omega), if_pos ha]
    · refine Exs.cons (Ex.ifT (c := false) (Te.and (Ands.no ((Te.cmp (Ev.item (Ev.name rfl)) (Ev.name rfl) (CmpD.eqI _ _)).to (by simpa using ha)))) (by simp) (fun _ => Exs.nil)) ?_
      refine Exs.cons (Ex.ifT (c := false) ((Te.cmp (Ev.item (Ev.name rfl)) (Ev.name rfl) (CmpD.eqI _ _)).to (by simpa using ha)) (by simp) (fun _ => Exs.nil)) ?_
      by_cases hb : b = k
      · refine Exs.ret (Ex.ifT (c := true) ((Te.cmp (Ev.item (Ev.name rfl)) (Ev.name rfl) (CmpD.eqI _ _)).to (by simpa using hb)) (fun _ => Exs.ret (Ex.ret ((Ev.tuple (Evs.cons (Ev.item (Ev.name rfl)) (Evs.cons (Ev.sub (Ev.name rfl) Ev.int) Evs.nil))).to ?_))) (by simp))
        unfold withoutD; rw [if_neg (by omega), if_neg ha, if_pos hb]
      · refine Exs.cons (Ex.ifT (c := false) ((Te.cmp (Ev.item (Ev.name rfl)) (Ev.name rfl) (CmpD.eqI _ _)).to (by simpa using hb)) (by simp) (fun _ => Exs.nil)) ?_
        refine Exs.ret (Ex.ret ((Ev.name rfl).to ?_))
        unfold withoutD; rw [if_neg (by omega), if_neg ha, if_neg hb]
  · intro pm cd doc vs hv
    match vs, hv with
    | [_, _], _ => rfl
  · decide +kernel
  · decide +kernel
  · decide +kernel

def isNoneD : PyData → Bool
  | .none => true
  | _ => false
theorem CmpD.isNoneD (d : PyData) : CmpD .Is d .none (Mine.isNoneD d) := CmpD.isNone (by cases d <;> rfl)

def apartL (a b c d : Int) : PyData := if c = d then withoutD a b c else tI a b
def pairD (l r : PyData) : PyData := if isNoneD l || isNoneD r then .none else .tuple [l, r]
def apartD (a b c d : Int) : PyData := pairD (apartL a b c d) (apartL c d a b)

theorem apart_spec (X : Ground h₀ mg mb) {a b c d : Int} : Fn pg w h₀ mg 2 17 [tI a b, tI c d] (apartD a b c d) := by
  refine Fn.intro (ps := ["x", "y"]) X ?_ ?_ ?_ ?_ rfl ?_
  · refine Exs.cons (Ex.store (d := apartL a b c d) (Ev.ite (Te.cmp (Ev.item (Ev.name rfl)) (Ev.item (Ev.name rfl)) (CmpD.eqI _ _)) (fun h => (Ev.dcall 16 X (Evs.cons (Ev.name rfl) (Evs.cons (Ev.item (Ev.name rfl)) Evs.nil)) (without_spec X)).to ?_) (fun h => (Ev.name rfl).to ?_))) ?_
    · unfold apartL; rw [if_pos (by simpa using h)]
    · unfold apartL; rw [if_neg (by simpa using h)]
    refine Exs.cons (Ex.store (d := apartL c d a b) (Ev.ite (Te.cmp (Ev.item (Ev.name rfl)) (Ev.item (Ev.name rfl)) (CmpD.eqI _ _)) (fun h => (Ev.dcall 16 X (Evs.cons (Ev.name rfl) (Evs.cons (Ev.item (Ev.name rfl)) Evs.nil)) (without_spec X)).to ?_) (fun h => (Ev.name rfl).to ?_))) ?_
    · unfold apartL; rw [if_pos (by simpa using h)]
    · unfold apartL; rw [if_neg (by simpa using h)]
    cases h1 : isNoneD (apartL a b c d) with
    | true =>
      refine Exs.ret (Ex.ifT (c := true) (Te.or (Ors.yes ((Te.cmp (Ev.name rfl) Ev.none (CmpD.isNoneD _)).to h1))) (fun _ => Exs.ret (Ex.ret (Ev.none.to ?_))) (by simp))
      unfold apartD pairD; rw [h1]; rfl
    | false =>
      cases h2 : isNoneD (apartL c d a b) with
      | true =>
        refine Exs.ret (Ex.ifT (c := true) (Te.or (Ors.go ((Te.cmp (Ev.name rfl) Ev.none (CmpD.isNoneD _)).to h1) (Ors.yes ((Te.cmp (Ev.name rfl) Ev.none (CmpD.isNoneD _)).to h2)))) (fun _ => Exs.ret (Ex.ret (Ev.none.to ?_))) (by simp))
        unfold apartD pairD; rw [h1, h2]; rfl
      | false =>
        refine Exs.cons (Ex.ifT (c := false) (Te.or (Ors.go ((Te.cmp (Ev.name rfl) Ev.none (CmpD.isNoneD _)).to h1) (Ors.go ((Te.cmp (Ev.name rfl) Ev.none (CmpD.isNoneD _)).to h2) Ors.nil))) (by simp) (fun _ => Exs.nil)) ?_
        refine Exs.ret (Ex.ret ((Ev.tuple (Evs.cons (Ev.name rfl) (Evs.cons (Ev.name rfl) Evs.nil))).to ?_))
        unfold apartD pairD; rw [h1, h2]; rfl
  · intro pm cd doc vs hv
    match vs, hv with
    | [_, _], _ => rfl
  · decide +kernel
  · decide +kernel
  · decide +kernel
end
end Mine

namespace Mine

section
variable {w : World} {h₀ : Heap} {mg mb : Str → Option Value} {n : Nat}
variable {prog : Program} {sc : Scope} {ρ : Rho}

abbrev tS (s : Str) : PyData := .str s

/-- «name == written text», both known -/
theorem Te.isS {x : Str} {p k q pos} {a b : Str} {c : Bool} (hr : ρ.lookup x = some (.str a)) (hc : (a == b) = c) (ha : PyData.strOk a = true) (hb : PyData.strOk b = true) (hk : sc.kind = .function := by rfl) (hd : (x == ("__debug__" : Str)) = false := by decide) :
    Te prog w h₀ n sc ρ (.Compare (.Name x p) [.Eq] [.Constant (.str b) k q] pos) c := (Te.cmp (Ev.name hr hk hd) Ev.str (CmpD.eqS ha hb)).to hc
theorem Ev.isS {x : Str} {p k q pos} {a b : Str} {c : Bool} (hr : ρ.lookup x = some (.str a)) (hc : (a == b) = c) (ha : PyData.strOk a = true) (hb : PyData.strOk b = true) (hk : sc.kind = .function := by rfl) (hd : (x == ("__debug__" : Str)) = false := by decide) :
    Ev prog w h₀ n sc ρ (.Compare (.Name x p) [.Eq] [.Constant (.str b) k q] pos) (.bool c) := (Ev.cmp (Ev.name hr hk hd) Ev.str (CmpD.eqS ha hb)).to (congrArg PyData.bool hc)

theorem narrow_eq_spec (X : Ground h₀ mg mb) {a b c d : Int} : Fn pg w h₀ mg 2 18 [tS "=", tI a b, tI c d] (if max a c ≤ min b d then .tuple [tI (max a c) (min b d), tI (max a c) (min b d)] else .none) := by
  refine Fn.intro (ps := ["op", "x", "y"]) X ?_ ?_ ?_ ?_ rfl ?_
  · refine Exs.ret (Ex.ifT (c := true) (Te.isS rfl (by decide +kernel) (by decide +kernel) (by decide +kernel)) (fun _ => ?_) (by simp))
    refine Exs.cons (Ex.store (Ev.dcall 14 X (Evs.cons (Ev.name rfl) (Evs.cons (Ev.name rfl) Evs.nil)) (meet_spec X))) ?_
    refine Exs.ret (Ex.ret (Ev.ite (Te.cmp (Ev.name rfl) Ev.none (CmpD.isNoneD _)) (fun h => Ev.none.to ?_) (fun h => (Ev.tuple (Evs.cons (Ev.name rfl) (Evs.cons (Ev.name rfl) Evs.nil))).to ?_)))
    · by_cases hc : max a c ≤ min b d
      · unfold meetD at h; rw [if_pos hc] at h; cases h
      · rw [if_neg hc]
    · by_cases hc : max a c ≤ min b d
      · unfold meetD; rw [if_pos hc, if_pos hc]
      · unfold meetD at h; rw [if_neg hc] at h; cases h
  · intro pm cd doc vs hv
    match vs, hv with
    | [_, _, _], _ => rfl
  · decide +kernel
  · decide +kernel
  · decide +kernel

theorem narrow_ne_spec (X : Ground h₀ mg mb) {a b c d : Int} : Fn pg w h₀ mg 3 18 [tS "#", tI a b, tI c d] (apartD a b c d) := by
  refine Fn.intro (ps := ["op", "x", "y"]) X ?_ ?_ ?_ ?_ rfl ?_
  · refine Exs.cons (Ex.ifT (c := false) (Te.isS rfl (by decide +kernel) (by decide +kernel) (by decide +kernel)) (by simp) (fun _ => Exs.nil)) ?_
    exact Exs.ret (Ex.ifT (c := true) (Te.isS rfl (by decide +kernel) (by decide +kernel) (by decide +kernel)) (fun _ => Exs.ret (Ex.ret (Ev.dcall 17 X (Evs.cons (Ev.name rfl) (Evs.cons (Ev.name rfl) Evs.nil)) (apart_spec X)))) (by simp))
  · intro pm cd doc vs hv
    match vs, hv with
    | [_, _, _], _ => rfl
  · decide +kernel
  · decide +kernel
  · decide +kernel

section
variable {a b c d : Int} (h1 : -1000 ≤ a) (h2 : a ≤ b) (h3 : b ≤ 1000) (h4 : -1000 ≤ c) (h5 : c ≤ d) (h6 : d ≤ 1000)
include h1 h2 h3 h4 h5 h6

theorem narrow_lt_spec (X : Ground h₀ mg mb) : Fn pg w h₀ mg 3 18 [tS "<", tI a b, tI c d] (belowD a b c d 1) := by
  refine Fn.intro (ps := ["op", "x", "y"]) X ?_ ?_ ?_ ?_ rfl ?_
  · refine Exs.cons (Ex.ifT (c := false) (Te.isS rfl (by decide +kernel) (by decide +kernel) (by decide +kernel)) (by simp) (fun _ => Exs.nil)) ?_
    refine Exs.cons (Ex.ifT (c := false) (Te.isS rfl (by decide +kernel) (by decide +kernel) (by decide +kernel)) (by simp) (fun _ => Exs.nil)) ?_
    refine Exs.ret (Ex.ifT (c := true) (Te.or (Ors.yes (Te.isS rfl (by decide +kernel) (by decide +kernel) (by decide +kernel)))) (fun _ => Exs.ret (Ex.ret ?_)) (by simp))
    exact Ev.dcall 15 X (Evs.cons (Ev.name rfl) (Evs.cons (Ev.name rfl) (Evs.cons (Ev.ite (c := true) (Te.isS rfl (by decide +kernel) (by decide +kernel) (by decide +kernel)) (fun _ => Ev.int) (by simp)) Evs.nil))) (below_spec X h1 h2 h3 h4 h5 h6 (by decide) (by decide))
  · intro pm cd doc vs hv
    match vs, hv with
    | [_, _, _], _ => rfl
  · decide +kernel
  · decide +kernel
  · decide +kernel

theorem narrow_le_spec (X : Ground h₀ mg mb) : Fn pg w h₀ mg 3 18 [tS "<=", tI a b, tI c d] (belowD a b c d 0) := by
  refine Fn.intro (ps := ["op", "x", "y"]) X ?_ ?_ ?_ ?_ rfl ?_
  · refine Exs.cons (Ex.ifT (c := false) (Te.isS rfl (by decide +kernel) (by decide +kernel) (by decide +kernel)) (by simp) (fun _ => Exs.nil)) ?_
    refine Exs.cons (Ex.ifT (c := false) (Te.isS rfl (by decide +kernel) (by decide +kernel) (by decide +kernel)) (by simp) (fun _ => Exs.nil)) ?_
    refine Exs.ret (Ex.ifT (c := true) (Te.or (Ors.go (Te.isS rfl (by decide +kernel) (by decide +kernel) (by decide +kernel)) (Ors.yes (Te.isS rfl (by decide +kernel) (by decide +kernel) (by decide +kernel))))) (fun _ => Exs.ret (Ex.ret ?_)) (by simp))
    exact Ev.dcall 15 X (Evs.cons (Ev.name rfl) (Evs.cons (Ev.name rfl) (Evs.cons (Ev.ite (c := false) (Te.isS rfl (by decide +kernel) (by decide +kernel) (by decide +kernel)) (by simp) (fun _ => Ev.int)) Evs.nil))) (below_spec X h1 h2 h3 h4 h5 h6 (by decide) (by decide))
  · intro pm cd doc vs hv
    match vs, hv with
    | [_, _, _], _ => rfl
  · decide +kernel
  · decide +kernel
  · decide +kernel

theorem narrow_gt_spec (X : Ground h₀ mg mb) : Fn pg w h₀ mg 3 18 [tS ">", tI c d, tI a b] (if a + 1 ≤ d then .tuple [tI (max c (a + 1)) d, tI a (min b (d - 1))] else .none) := by
  refine Fn.intro (ps := ["op", "x", "y"]) X ?_ ?_ ?_ ?_ rfl ?_
  · refine Exs.cons (Ex.ifT (c := false) (Te.isS rfl (by decide +kernel) (by decide +kernel) (by decide +kernel)) (by simp) (fun _ => Exs.nil)) ?_
    refine Exs.cons (Ex.ifT (c := false) (Te.isS rfl (by decide +kernel) (by decide +kernel) (by decide +kernel)) (by simp) (fun _ => Exs.nil)) ?_
    refine Exs.cons (Ex.ifT (c := false) (Te.or (Ors.go (Te.isS rfl (by decide +kernel) (by decide +kernel) (by decide +kernel)) (Ors.go (Te.isS rfl (by decide +kernel) (by decide +kernel) (by decide +kernel)) Ors.nil))) (by simp) (fun _ => Exs.nil)) ?_
    refine Exs.cons (Ex.store (Ev.dcall 15 X (Evs.cons (Ev.name rfl) (Evs.cons (Ev.name rfl) (Evs.cons (Ev.ite (c := true) (Te.isS rfl (by decide +kernel) (by decide +kernel) (by decide +kernel)) (fun _ => Ev.int) (by simp)) Evs.nil))) (below_spec X h1 h2 h3 h4 h5 h6 (by decide) (by decide)))) ?_
    by_cases hc : a + 1 ≤ d
    · rw [show belowD a b c d 1 = .tuple [tI a (min b (d - 1)), tI (max c (a + 1)) d] by unfold belowD; rw [if_pos hc], if_pos hc]
      exact Exs.ret (Ex.ret (Ev.ite (c := false) (Te.cmp (Ev.name rfl) Ev.none (CmpD.isNone rfl)) (by simp) (fun _ => Ev.tuple (Evs.cons (Ev.item (Ev.name rfl)) (Evs.cons (Ev.item (Ev.name rfl)) Evs.nil)))))
    · rw [show belowD a b c d 1 = .none by unfold belowD; rw [if_neg hc], if_neg hc]
      exact Exs.ret (Ex.ret (Ev.ite (c := true) (Te.cmp (Ev.name rfl) Ev.none (CmpD.isNone rfl)) (fun _ => Ev.none) (by simp)))
  · intro pm cd doc vs hv
    match vs, hv with
    | [_, _, _], _ => rfl
  · decide +kernel
  · decide +kernel
  · decide +kernel

theorem narrow_ge_spec (X : Ground h₀ mg mb) : Fn pg w h₀ mg 3 18 [tS ">=", tI c d, tI a b] (if a + 0 ≤ d then .tuple [tI (max c (a + 0)) d, tI a (min b (d - 0))] else .none) := by
  refine Fn.intro (ps := ["op", "x", "y"]) X ?_ ?_ ?_ ?_ rfl ?_
  · refine Exs.cons (Ex.ifT (c := false) (Te.isS rfl (by decide +kernel) (by decide +kernel) (by decide +kernel)) (by simp) (fun _ => Exs.nil)) ?_
    refine Exs.cons (Ex.ifT (c := false) (Te.isS rfl (by decide +kernel) (by decide +kernel) (by decide +kernel)) (by simp) (fun _ => Exs.nil)) ?_
    refine Exs.cons (Ex.ifT (c := false) (Te.or (Ors.go (Te.isS rfl (by decide +kernel) (by decide +kernel) (by decide +kernel)) (Ors.go (Te.isS rfl (by decide +kernel) (by decide +kernel) (by decide +kernel)) Ors.nil))) (by simp) (fun _ => Exs.nil)) ?_
    refine Exs.cons (Ex.store (Ev.dcall 15 X (Evs.cons (Ev.name rfl) (Evs.cons (Ev.name rfl) (Evs.cons (Ev.ite (c := false) (Te.isS rfl (by decide +kernel) (by decide +kernel) (by decide +kernel)) (by simp) (fun _ => Ev.int)) Evs.nil))) (below_spec X h1 h2 h3 h4 h5 h6 (by decide) (by decide)))) ?_
    by_cases hc : a + 0 ≤ d
    · rw [show belowD a b c d 0 = .tuple [tI a (min b (d - 0)), tI (max c (a + 0)) d] by unfold belowD; rw [if_pos hc], if_pos hc]
      exact Exs.ret (Ex.ret (Ev.ite (c := false) (Te.cmp (Ev.name rfl) Ev.none (CmpD.isNone rfl)) (by simp) (fun _ => Ev.tuple (Evs.cons (Ev.item (Ev.name rfl)) (Evs.cons (Ev.item (Ev.name rfl)) Evs.nil)))))
    · rw [show belowD a b c d 0 = .none by unfold belowD; rw [if_neg hc], if_neg hc]
      exact Exs.ret (Ex.ret (Ev.ite (c := true) (Te.cmp (Ev.name rfl) Ev.none (CmpD.isNone rfl)) (fun _ => Ev.none) (by simp)))
  · intro pm cd doc vs hv
    match vs, hv with
    | [_, _, _], _ => rfl
  · decide +kernel
  · decide +kernel
  · decide +kernel
end

/-- the table of opposites -/
def oppT : List (Str × Str) := [("=", "#"), ("#", "="), ("<", ">="), (">=", "<"), (">", "<="), ("<=", ">")]

theorem opp_val {x y : Str} (h : (oppT.find? fun p => p.1 == x) = some (x, y)) : ∀ ts : List Tok, ts.length = oppT.length → ∃ t, valueAt (merged [] (tv oppT ts)) x = some (.str y t) := by
  intro ts hts
  match ts, hts with
  | [t1, t2, t3, t4, t5, t6], _ =>
    have e : merged [] (tv oppT [t1, t2, t3, t4, t5, t6]) = ([(("=" : Str), Value.str "#" t1), (("#" : Str), Value.str "=" t2), (("<" : Str), Value.str ">=" t3), ((">=" : Str), Value.str "<" t4), ((">" : Str), Value.str "<=" t5), (("<=" : Str), Value.str ">" t6)] : List (Str × Value)) := by rfl
    rw [e]
    have hm := List.mem_of_find?_eq_some h
    simp only [oppT, List.mem_cons, Prod.mk.injEq, List.not_mem_nil, or_false] at hm
    rcases hm with ⟨rfl, rfl⟩ | ⟨rfl, rfl⟩ | ⟨rfl, rfl⟩ | ⟨rfl, rfl⟩ | ⟨rfl, rfl⟩ | ⟨rfl, rfl⟩
    · exact ⟨t1, rfl⟩
    · exact ⟨t2, rfl⟩
    · exact ⟨t3, rfl⟩
    · exact ⟨t4, rfl⟩
    · exact ⟨t5, rfl⟩
    · exact ⟨t6, rfl⟩

theorem opposite_spec (X : Ground h₀ mg mb) {x y : Str} (h : (oppT.find? fun p => p.1 == x) = some (x, y)) : Fn pg w h₀ mg 1 19 [tS x] (tS y) := by
  refine Fn.intro (ps := ["op"]) X ?_ ?_ ?_ ?_ rfl ?_
  · refine Exs.ret ?_
    refine Ex.ret ?_
    refine @Ev.dictItem _ _ _ _ _ _ _ _ _ _ _ x y oppT ?_ (by simp [oppT]) (by decide) ?_ (opp_val h) (by intro _ _ _; with_unfolding_all rfl)
    · exact DP.cons Ev.str Ev.str (DP.cons Ev.str Ev.str (DP.cons Ev.str Ev.str (DP.cons Ev.str Ev.str (DP.cons Ev.str Ev.str (DP.cons Ev.str Ev.str DP.nil)))))
    · exact Ev.name rfl
  · intro pm cd doc vs hv
    match vs, hv with
    | [_], _ => rfl
  · decide +kernel
  · decide +kernel
  · decide +kernel
end
end Mine

namespace Mine

theorem shLI (ns : List Int) : SeqAt.shaped (.list (ns.map .int)) = true := by
  have h : ∀ ns : List Int, PyData.canLayAll0 (ns.map .int) = true ∧ PyData.depthAll (ns.map .int) = 0 := fun ns => by
    induction ns with
    | nil => simp [PyData.canLayAll0, PyData.depthAll]
    | cons n ns ih => simp [PyData.canLayAll0, PyData.depthAll, PyData.canLay0, PyData.depth, ih]
  simp [SeqAt.shaped, PyData.canLay0, PyData.depth, h]
section
variable {w : World} {h₀ : Heap} {mg mb : Str → Option Value} {n : Nat}

theorem span_spec (X : Ground h₀ mg mb) {f : Int} : Fn pg w h₀ mg 1 22 [.int f] (tI (f.fmod 12 - 6) (f.fmod 12 - 6 + (f.fdiv 12).fmod 6)) := by
  refine Fn.intro (ps := ["figure"]) X ?_ ?_ ?_ ?_ rfl ?_
  · refine Exs.cons (Ex.store (Ev.sub (Ev.mod (Ev.name rfl) Ev.int (by decide)) Ev.int)) ?_
    refine Exs.ret ?_
    refine Ex.ret ?_
    exact Ev.tuple (Evs.cons (Ev.name rfl) (Evs.cons (Ev.add (Ev.name rfl) (Ev.mod (Ev.div (Ev.name rfl) Ev.int (by decide) (by decide)) Ev.int (by decide))) Evs.nil))
  · intro pm cd doc vs hv
    match vs, hv with
    | [_], _ => rfl
  · decide +kernel
  · decide +kernel
  · decide +kernel

/-- the members of an interval -/
def mem (a b : Int) : List Int := span a (b + 1 - a).toNat
theorem mem_iff {a b x : Int} : x ∈ mem a b ↔ a ≤ x ∧ x ≤ b := by
  unfold mem span
  simp only [List.mem_map, List.mem_range]
  constructor
  · rintro ⟨i, hi, rfl⟩; omega
  · rintro ⟨h1, h2⟩; exact ⟨(x - a).toNat, by omega, by omega⟩
theorem mem_len (a b : Int) : (mem a b).length = (b + 1 - a).toNat := span_len _ _

theorem members_spec (X : Ground h₀ mg mb) {a b : Int} (h1 : -1000 ≤ a) (h2 : a ≤ 1000) (h3 : -1000 ≤ b) (h4 : b ≤ 1000) : Fn pg w h₀ mg 1 23 [tI a b] (.list ((mem a b).map .int)) := by
  refine Fn.intro (ps := ["span"]) X ?_ ?_ ?_ ?_ rfl ?_
  · refine Exs.ret ?_
    refine Ex.ret ?_
    exact Ev.listRange X (Ev.item (Ev.name rfl)) (Ev.add (Ev.item (Ev.name rfl)) Ev.int) (by omega) (by omega) (by omega) (by omega) (by omega)
  · intro pm cd doc vs hv
    match vs, hv with
    | [_], _ => rfl
  · decide +kernel
  · decide +kernel
  · decide +kernel

theorem hull_spec (X : Ground h₀ mg mb) {ns : List Int} {m M : Int} (hm : IsMin ns m) (hM : IsMax ns M) : Fn pg w h₀ mg 1 24 [.list (ns.map .int)] (tI m M) := by
  refine Fn.intro (ps := ["members"]) X ?_ ?_ ?_ ?_ rfl ?_
  · refine Exs.ret ?_
    refine Ex.ret ?_
    refine Ev.ite (c := true) ((Te.cmp (Ev.name rfl) (Ev.list Evs.nil) (CmpD.ne (shLI ns) (shLI []))).to ?_) (fun _ => ?_) (by simp)
    · cases ns with
      | nil => exact absurd hm.1 (by simp)
      | cons x xs => simp [PyData.eqv, PyData.eqvAll]
    · exact Ev.tuple (Evs.cons (Ev.blt X (Evs.cons (Ev.name rfl) Evs.nil) (Ca.minL hm)) (Evs.cons (Ev.blt X (Evs.cons (Ev.name rfl) Evs.nil) (Ca.maxL hM)) Evs.nil))
  · intro pm cd doc vs hv
    match vs, hv with
    | [_], _ => rfl
  · decide +kernel
  · decide +kernel
  · decide +kernel

theorem hull_none_spec (X : Ground h₀ mg mb) : Fn pg w h₀ mg 1 24 [.list []] .none := by
  refine Fn.intro (ps := ["members"]) X ?_ ?_ ?_ ?_ rfl ?_
  · refine Exs.ret ?_
    refine Ex.ret ?_
    refine Ev.ite (c := false) ((Te.cmp (Ev.name rfl) (Ev.list Evs.nil) (CmpD.ne (shLI []) (shLI []))).to ?_) (by simp) (fun _ => Ev.none)
    simp [PyData.eqv, PyData.eqvAll]
  · intro pm cd doc vs hv
    match vs, hv with
    | [_], _ => rfl
  · decide +kernel
  · decide +kernel
  · decide +kernel

/-- the hull of ints, as the text reckons it -/
def HullIs (ns : List Int) (d : PyData) : Prop := (ns = [] ∧ d = .none) ∨ ∃ m M, IsMin ns m ∧ IsMax ns M ∧ d = tI m M
theorem hull_any (X : Ground h₀ mg mb) {ns : List Int} {d : PyData} (h : HullIs ns d) : Fn pg w h₀ mg 1 24 [.list (ns.map .int)] d := by
  rcases h with ⟨rfl, rfl⟩ | ⟨m, M, h1, h2, rfl⟩
  · exact hull_none_spec X
  · exact hull_spec X h1 h2

/-! the relations -/
def relF (op : Str) (i j : Int) : Bool :=
  if op = "=" then decide (i = j) else if op = "#" then !decide (i = j) else if op = "<" then decide (i < j) else if op = ">=" then !decide (i < j) else if op = "<=" then decide (i ≤ j) else !decide (i ≤ j)

variable {prog : Program} {sc : Scope} {ρ : Rho}
theorem Te.inS {x : Str} {p k1 q1 k2 q2 lp pos} {a b1 b2 : Str} {c : Bool} (hr : ρ.lookup x = some (.str a)) (hc : ([b1, b2].any fun b => b == a) = c) (ha : PyData.strOk a = true) (hb1 : PyData.strOk b1 = true) (hb2 : PyData.strOk b2 = true) (hk : sc.kind = .function := by rfl) (hd : (x == ("__debug__" : Str)) = false := by decide) :
    Te prog w h₀ n sc ρ (.Compare (.Name x p) [.In] [.List [.Constant (.str b1) k1 q1, .Constant (.str b2) k2 q2] lp] pos) c :=
  (Te.cmp (Ev.name hr hk hd) (Ev.list (Evs.cons Ev.str (Evs.cons Ev.str Evs.nil))) (CmpD.isIn (by simp [PyData.canLayAll0, PyData.canLay0, hb1, hb2]) (by simp [PyData.canLay0, ha]) (by simp [PyData.depth]))).to (by simpa [PyData.eqv] using hc)

theorem rel12_spec (X : Ground h₀ mg mb) {op : Str} {i j : Int} (h : ([("=" : Str), "#"].any fun b => b == op) = true) (ho : PyData.strOk op = true) : Fn pg w h₀ mg 1 25 [tS op, .int i, .int j] (.bool ((i == j) == (op == "="))) := by
  refine Fn.intro (ps := ["op", "one", "other"]) X ?_ ?_ ?_ ?_ rfl ?_
  · refine Exs.ret ?_
    refine Ex.ifT (c := true) (Te.inS rfl h ho (by decide +kernel) (by decide +kernel)) (fun _ => Exs.ret ?_) (by simp)
    refine Ex.ret ?_
    exact Ev.cmp (Ev.cmp (Ev.name rfl) (Ev.name rfl) (CmpD.eqI _ _)) (Ev.isS rfl rfl ho (by decide +kernel)) (CmpD.eqB _ _)
  · intro pm cd doc vs hv
    match vs, hv with
    | [_, _, _], _ => rfl
  · decide +kernel
  · decide +kernel
  · decide +kernel

theorem rel34_spec (X : Ground h₀ mg mb) {op : Str} {i j : Int} (h0 : ([("=" : Str), "#"].any fun b => b == op) = false) (h : ([("<" : Str), ">="].any fun b => b == op) = true) (ho : PyData.strOk op = true) :
    Fn pg w h₀ mg 1 25 [tS op, .int i, .int j] (.bool (decide (i < j) == (op == "<"))) := by
  refine Fn.intro (ps := ["op", "one", "other"]) X ?_ ?_ ?_ ?_ rfl ?_
  · refine Exs.cons (Ex.ifT (c := false) (Te.inS rfl h0 ho (by decide +kernel) (by decide +kernel)) (by simp) (fun _ => Exs.nil)) ?_
    refine Exs.ret ?_
    refine Ex.ifT (c := true) (Te.inS rfl h ho (by decide +kernel) (by decide +kernel)) (fun _ => Exs.ret ?_) (by simp)
    refine Ex.ret ?_
    exact Ev.cmp (Ev.cmp (Ev.name rfl) (Ev.name rfl) (CmpD.lt _ _)) (Ev.isS rfl rfl ho (by decide +kernel)) (CmpD.eqB _ _)
  · intro pm cd doc vs hv
    match vs, hv with
    | [_, _, _], _ => rfl
  · decide +kernel
  · decide +kernel
  · decide +kernel

theorem rel56_spec (X : Ground h₀ mg mb) {op : Str} {i j : Int} (h0 : ([("=" : Str), "#"].any fun b => b == op) = false) (h : ([("<" : Str), ">="].any fun b => b == op) = false) (ho : PyData.strOk op = true) :
    Fn pg w h₀ mg 1 25 [tS op, .int i, .int j] (.bool (decide (i ≤ j) == (op == "<="))) := by
  refine Fn.intro (ps := ["op", "one", "other"]) X ?_ ?_ ?_ ?_ rfl ?_
  · refine Exs.cons (Ex.ifT (c := false) (Te.inS rfl h0 ho (by decide +kernel) (by decide +kernel)) (by simp) (fun _ => Exs.nil)) ?_
    refine Exs.cons (Ex.ifT (c := false) (Te.inS rfl h ho (by decide +kernel) (by decide +kernel)) (by simp) (fun _ => Exs.nil)) ?_
    refine Exs.ret ?_
    refine Ex.ret ?_
    exact Ev.cmp (Ev.cmp (Ev.name rfl) (Ev.name rfl) (CmpD.le _ _)) (Ev.isS rfl rfl ho (by decide +kernel)) (CmpD.eqB _ _)
  · intro pm cd doc vs hv
    match vs, hv with
    | [_, _, _], _ => rfl
  · decide +kernel
  · decide +kernel
  · decide +kernel
end
end Mine

namespace Mine

section
variable {prog : Program} {w : World} {h₀ : Heap} {n : Nat} {sc : Scope} {elt : Expr} {t i t2 i2 : Expr} {fs fs2 : List Expr} {r : Rho} {α : Type}
theorem Cmp.all1 {f g : α → PyData} {xs : List α} (step : ∀ x ∈ xs, ∃ r', Bnd sc t (f x) r r' ∧ Tsts (Te prog w h₀ n sc r') fs true ∧ Ev prog w h₀ n sc r' elt (g x)) :
    Cmp prog w h₀ n sc elt [⟨t, i, fs, 0⟩] r (xs.map f) (xs.map g) := by
  induction xs with
  | nil => exact .nil
  | cons x xs ih =>
    obtain ⟨r', h1, h2, h3⟩ := step x List.mem_cons_self
    exact .one h1 h2 h3 (ih fun y hy => step y (List.mem_cons_of_mem _ hy))
theorem Cmp.filt1 {f g : α → PyData} {p : α → Bool} {xs : List α} (step : ∀ x ∈ xs, ∃ r', Bnd sc t (f x) r r' ∧ Tsts (Te prog w h₀ n sc r') fs (p x) ∧ (p x = true → Ev prog w h₀ n sc r' elt (g x))) :
    Cmp prog w h₀ n sc elt [⟨t, i, fs, 0⟩] r (xs.map f) ((xs.filter p).map g) := by
  induction xs with
  | nil => exact .nil
  | cons x xs ih =>
    obtain ⟨r', h1, h2, h3⟩ := step x List.mem_cons_self
    have ih := ih fun y hy => step y (List.mem_cons_of_mem _ hy)
    cases hp : p x with
    | true => rw [List.filter_cons_of_pos hp]; exact .one h1 (hp ▸ h2) (h3 hp) ih
    | false => rw [List.filter_cons_of_neg (by simp [hp])]; exact .skip h1 (hp ▸ h2) ih
theorem Cmp.deep2 {f : α → PyData} {ds out : α → List PyData} {xs : List α} (step : ∀ x ∈ xs, ∃ r', Bnd sc t (f x) r r' ∧ Tsts (Te prog w h₀ n sc r') fs true ∧ Ev prog w h₀ n sc r' i2 (.list (ds x)) ∧ Cmp prog w h₀ n sc elt [⟨t2, i2, fs2, 0⟩] r' (ds x) (out x))
    (hf : ∀ env x, foldedSetIterable i2 env x = pure x := by intro _ _; rfl) :
    Cmp prog w h₀ n sc elt [⟨t, i, fs, 0⟩, ⟨t2, i2, fs2, 0⟩] r (xs.map f) (xs.flatMap out) := by
  induction xs with
  | nil => exact .nil
  | cons x xs ih =>
    obtain ⟨r', h1, h2, h3, h4⟩ := step x List.mem_cons_self
    exact .deep h1 h2 h3 hf h4 (ih fun y hy => step y (List.mem_cons_of_mem _ hy))
end

def prsOf (a b c d : Int) : List (Int × Int) := (mem a b).flatMap fun i => (mem c d).map fun j => (i, j)
theorem prs_iff {a b c d : Int} {p : Int × Int} : p ∈ prsOf a b c d ↔ a ≤ p.1 ∧ p.1 ≤ b ∧ c ≤ p.2 ∧ p.2 ≤ d := by
  unfold prsOf
  simp only [List.mem_flatMap, List.mem_map, mem_iff]
  constructor
  · rintro ⟨i, hi, j, hj, rfl⟩; exact ⟨hi.1, hi.2, hj.1, hj.2⟩
  · rintro ⟨h1, h2, h3, h4⟩; exact ⟨p.1, ⟨h1, h2⟩, p.2, ⟨h3, h4⟩, rfl⟩
theorem prs_len_le {a b c d : Int} (h1 : b - a ≤ 5) (h2 : d - c ≤ 5) : (prsOf a b c d).length ≤ 36 := by
  unfold prsOf
  rw [List.length_flatMap]
  have e : ∀ l : List Int, (l.map fun i => ((mem c d).map fun j => (i, j)).length).sum = l.length * (mem c d).length := fun l => by
    induction l with
    | nil => simp
    | cons x l ih => rw [List.map_cons, List.sum_cons, ih, List.length_map, List.length_cons, Nat.add_mul, Nat.one_mul, Nat.add_comm]
  rw [e, mem_len, mem_len]
  have : (b + 1 - a).toNat * (d + 1 - c).toNat ≤ 6 * 6 := Nat.mul_le_mul (by omega) (by omega)
  omega

abbrev tP (p : Int × Int) : PyData := tI p.1 p.2

/-- an interval of the law's -/
structure Sp (a b : Int) : Prop where
  lo : -6 ≤ a
  le : a ≤ b
  hi : b ≤ 10
  wd : b - a ≤ 5

section
variable {w : World} {h₀ : Heap} {mg mb : Str → Option Value} {n : Nat} {sc : Scope} {ρ : Rho}

/-- the comprehension over the pairs -/
theorem over_pairs {elt : Expr} {i : Expr} {x y : Str} {p q tp : Pos} {kk : Nat} {scope : Scope} {pos : Pos} {ps : List (Int × Int)} {g : Int × Int → Int}
    (hi : Ev pg w h₀ n sc ρ i (.list (ps.map tP))) (hs : ∀ env x, foldedSetIterable i env x = pure x)
    (he : ∀ u : Int × Int, u ∈ ps → Ev pg w h₀ n (relabS scope sc) [(y, .int u.2), (x, .int u.1)] elt (.int (g u)))
    (hx : (relabS scope sc).names.lookup x = some .local) (hy : (relabS scope sc).names.lookup y = some .local)
    (hl : ps.length ≤ 36) (hfr : (scope.names.all fun p => p.2 != .free || (([] : Rho).map (·.1)).contains p.1) = true)
    (hk : scope.kind = .function) (hcell : (scope.names.all fun p => p.2 != .cell) = true) (hnames : (scope.names.all fun p => p.2 != .local || scope.names.lookup p.1 == some .local) = true) :
    Ev pg w h₀ n sc ρ (.ListComp elt [⟨.Tuple [.Name x p, .Name y q] kk tp, i, [], 0⟩] scope pos) (.list ((ps.map g).map .int)) := by
  refine (Ev.comp [] hi (Cmp.all1 (g := fun u => .int (g u)) fun u hu => ⟨_, Bnd.pair hx hy rfl rfl, Tsts.nil, he u hu⟩) (by simp; omega) True.intro hfr hk hcell hnames hs).to ?_
  rw [List.map_map]; rfl

theorem min4 {a b c d : Int} : ∃ m, IsMin [a, b, c, d] m := ⟨min (min a b) (min c d), by
  constructor
  · simp only [List.mem_cons, List.not_mem_nil, or_false]; omega
  · intro x hx; simp only [List.mem_cons, List.not_mem_nil, or_false] at hx; omega⟩
theorem max4 {a b c d : Int} : ∃ m, IsMax [a, b, c, d] m := ⟨max (max a b) (max c d), by
  constructor
  · simp only [List.mem_cons, List.not_mem_nil, or_false]; omega
  · intro x hx; simp only [List.mem_cons, List.not_mem_nil, or_false] at hx; omega⟩

section
variable {a b c d : Int} (hx : Sp a b) (hy : Sp c d)
include hx hy
theorem sum_hull : IsMin ((prsOf a b c d).map fun p => p.1 + p.2) (a + c) ∧ IsMax ((prsOf a b c d).map fun p => p.1 + p.2) (b + d) := by
  have h1 := hx.le; have h2 := hy.le
  refine ⟨⟨List.mem_map.mpr ⟨(a, c), prs_iff.mpr ⟨?_, ?_, ?_, ?_⟩, rfl⟩, fun x hx => ?_⟩, List.mem_map.mpr ⟨(b, d), prs_iff.mpr ⟨?_, ?_, ?_, ?_⟩, rfl⟩, fun x hx => ?_⟩
  all_goals first
    | (obtain ⟨p, hp, rfl⟩ := List.mem_map.mp hx; have := prs_iff.mp hp; omega)
    | (show _ ≤ _; dsimp only; omega)
theorem diff_hull : IsMin ((prsOf a b c d).map fun p => p.1 - p.2) (a - d) ∧ IsMax ((prsOf a b c d).map fun p => p.1 - p.2) (b - c) := by
  have h1 := hx.le; have h2 := hy.le
  refine ⟨⟨List.mem_map.mpr ⟨(a, d), prs_iff.mpr ⟨?_, ?_, ?_, ?_⟩, rfl⟩, fun x hx => ?_⟩, List.mem_map.mpr ⟨(b, c), prs_iff.mpr ⟨?_, ?_, ?_, ?_⟩, rfl⟩, fun x hx => ?_⟩
  all_goals first
    | (obtain ⟨p, hp, rfl⟩ := List.mem_map.mp hx; have := prs_iff.mp hp; omega)
    | (show _ ≤ _; dsimp only; omega)

theorem corner_lo {i j m : Int} (hm : IsMin [a * c, a * d, b * c, b * d] m) (h1 : a ≤ i) (h2 : i ≤ b) (h3 : c ≤ j) (h4 : j ≤ d) : m ≤ i * j := by
  have m1 := hm.2 (a * c) (by simp); have m2 := hm.2 (a * d) (by simp); have m3 := hm.2 (b * c) (by simp); have m4 := hm.2 (b * d) (by simp)
  have key : ∀ e : Int, m ≤ e * c → m ≤ e * d → m ≤ e * j := fun e p q => by
    by_cases he : 0 ≤ e
    · exact Int.le_trans p (Int.mul_le_mul_of_nonneg_left h3 he)
    · exact Int.le_trans q (Int.mul_le_mul_of_nonpos_left (by omega) h4)
  have ka := key a m1 m2
  have kb := key b m3 m4
  by_cases hj : 0 ≤ j
  · exact Int.le_trans ka (Int.mul_le_mul_of_nonneg_right h1 hj)
  · exact Int.le_trans kb (Int.mul_le_mul_of_nonpos_right h2 (by omega))
theorem corner_hi {i j m : Int} (hm : IsMax [a * c, a * d, b * c, b * d] m) (h1 : a ≤ i) (h2 : i ≤ b) (h3 : c ≤ j) (h4 : j ≤ d) : i * j ≤ m := by
  have m1 := hm.2 (a * c) (by simp); have m2 := hm.2 (a * d) (by simp); have m3 := hm.2 (b * c) (by simp); have m4 := hm.2 (b * d) (by simp)
  have key : ∀ e : Int, e * c ≤ m → e * d ≤ m → e * j ≤ m := fun e p q => by
    by_cases he : 0 ≤ e
    · exact Int.le_trans (Int.mul_le_mul_of_nonneg_left h4 he) q
    · exact Int.le_trans (Int.mul_le_mul_of_nonpos_left (by omega) h3) p
  have ka := key a m1 m2
  have kb := key b m3 m4
  by_cases hj : 0 ≤ j
  · exact Int.le_trans (Int.mul_le_mul_of_nonneg_right h2 hj) kb
  · exact Int.le_trans (Int.mul_le_mul_of_nonpos_right h1 (by omega)) ka

theorem prod_hull {m M : Int} (hm : IsMin [a * c, a * d, b * c, b * d] m) (hM : IsMax [a * c, a * d, b * c, b * d] M) : IsMin ((prsOf a b c d).map fun p => p.1 * p.2) m ∧ IsMax ((prsOf a b c d).map fun p => p.1 * p.2) M := by
  have h1 := hx.le; have h2 := hy.le
  have corner : ∀ v, v ∈ [a * c, a * d, b * c, b * d] → v ∈ (prsOf a b c d).map fun p => p.1 * p.2 := fun v hv => by
    simp only [List.mem_cons, List.not_mem_nil, or_false] at hv
    rcases hv with rfl | rfl | rfl | rfl
    · exact List.mem_map.mpr ⟨(a, c), prs_iff.mpr ⟨by dsimp only; omega, by dsimp only; omega, by dsimp only; omega, by dsimp only; omega⟩, rfl⟩
    · exact List.mem_map.mpr ⟨(a, d), prs_iff.mpr ⟨by dsimp only; omega, by dsimp only; omega, by dsimp only; omega, by dsimp only; omega⟩, rfl⟩
    · exact List.mem_map.mpr ⟨(b, c), prs_iff.mpr ⟨by dsimp only; omega, by dsimp only; omega, by dsimp only; omega, by dsimp only; omega⟩, rfl⟩
    · exact List.mem_map.mpr ⟨(b, d), prs_iff.mpr ⟨by dsimp only; omega, by dsimp only; omega, by dsimp only; omega, by dsimp only; omega⟩, rfl⟩
  refine ⟨⟨corner _ hm.1, fun x hx' => ?_⟩, corner _ hM.1, fun x hx' => ?_⟩
  · obtain ⟨p, hp, rfl⟩ := List.mem_map.mp hx'
    have := prs_iff.mp hp
    exact corner_lo hx hy hm this.1 this.2.1 this.2.2.1 this.2.2.2
  · obtain ⟨p, hp, rfl⟩ := List.mem_map.mp hx'
    have := prs_iff.mp hp
    exact corner_hi hx hy hM this.1 this.2.1 this.2.2.1 this.2.2.2
theorem prod_bnd {m M : Int} (hm : IsMin [a * c, a * d, b * c, b * d] m) (hM : IsMax [a * c, a * d, b * c, b * d] M) : -2147483648 ≤ m ∧ M ≤ 2147483647 := by
  have bnd : ∀ e f : Int, -10 ≤ e → e ≤ 10 → -10 ≤ f → f ≤ 10 → -100 ≤ e * f ∧ e * f ≤ 100 := fun e f h1 h2 h3 h4 => by
    have e1 : e * f ≤ 100 := by
      by_cases he : 0 ≤ e
      · have := Int.mul_le_mul_of_nonneg_left h4 he; omega
      · have := Int.mul_le_mul_of_nonpos_left (a := e) (by omega) h3; omega
    have e2 : -100 ≤ e * f := by
      by_cases he : 0 ≤ e
      · have := Int.mul_le_mul_of_nonneg_left h3 he; omega
      · have := Int.mul_le_mul_of_nonpos_left (a := e) (by omega) h4; omega
    exact ⟨e2, e1⟩
  have := hx.lo; have := hx.le; have := hx.hi; have := hy.lo; have := hy.le; have := hy.hi
  have b1 := bnd a c (by omega) (by omega) (by omega) (by omega)
  have b2 := bnd a d (by omega) (by omega) (by omega) (by omega)
  have b3 := bnd b c (by omega) (by omega) (by omega) (by omega)
  have b4 := bnd b d (by omega) (by omega) (by omega) (by omega)
  have hm1 := hm.1
  have hM1 := hM.1
  simp only [List.mem_cons, List.not_mem_nil, or_false] at hm1 hM1
  constructor
  · rcases hm1 with h | h | h | h <;> rw [h] <;> omega
  · rcases hM1 with h | h | h | h <;> rw [h] <;> omega
end

theorem neg_hull {a b : Int} (hx : a ≤ b) : IsMin ((mem a b).map fun i => 0 - i) (0 - b) ∧ IsMax ((mem a b).map fun i => 0 - i) (0 - a) := by
  refine ⟨⟨List.mem_map.mpr ⟨b, mem_iff.mpr ⟨?_, ?_⟩, rfl⟩, fun x hx => ?_⟩, List.mem_map.mpr ⟨a, mem_iff.mpr ⟨?_, ?_⟩, rfl⟩, fun x hx => ?_⟩
  all_goals first
    | (obtain ⟨p, hp, rfl⟩ := List.mem_map.mp hx; have := mem_iff.mp hp; omega)
    | omega
theorem abs_hull {a b : Int} (hx : a ≤ b) : IsMin ((mem a b).map fun i => if i < 0 then -i else i) (absLo a b) ∧ IsMax ((mem a b).map fun i => if i < 0 then -i else i) (absHi a b) := by
  have lo : ∀ v, (∃ i, a ≤ i ∧ i ≤ b ∧ (if i < 0 then -i else i) = v) → v ∈ (mem a b).map fun i => if i < 0 then -i else i := fun v ⟨i, h1, h2, h3⟩ => List.mem_map.mpr ⟨i, mem_iff.mpr ⟨h1, h2⟩, h3⟩
  refine ⟨⟨lo _ ?_, fun x hx => ?_⟩, lo _ ?_, fun x hx => ?_⟩
  · unfold absLo
    by_cases h1 : 0 ≤ a
    · exact ⟨a, by omega, by omega, by rw [if_pos h1]; split <;> omega⟩
    · by_cases h2 : b ≤ 0
      · exact ⟨b, by omega, by omega, by rw [if_neg h1, if_pos h2]; split <;> omega⟩
      · exact ⟨0, by omega, by omega, by rw [if_neg h1, if_neg h2]; split <;> omega⟩
  · obtain ⟨p, hp, rfl⟩ := List.mem_map.mp hx
    have := mem_iff.mp hp
    unfold absLo
    (repeat' split) <;> omega
  · unfold absHi
    by_cases h1 : 0 ≤ a
    · exact ⟨b, by omega, by omega, by rw [if_pos h1]; split <;> omega⟩
    · by_cases h2 : b ≤ 0
      · exact ⟨a, by omega, by omega, by rw [if_neg h1, if_pos h2]; split <;> omega⟩
      · by_cases h3 : 0 - a ≤ b
        · exact ⟨b, by omega, by omega, by rw [if_neg h1, if_neg h2]; split <;> omega⟩
        · exact ⟨a, by omega, by omega, by rw [if_neg h1, if_neg h2]; split <;> omega⟩
  · obtain ⟨p, hp, rfl⟩ := List.mem_map.mp hx
    have := mem_iff.mp hp
    unfold absHi
    (repeat' split) <;> omega
end
end Mine

namespace Mine

section
theorem div_anti {e j1 j2 : Int} (h1 : 0 < j1) (h2 : j1 ≤ j2) (he : 0 ≤ e) : e / j2 ≤ e / j1 := by
  have q0 : 0 ≤ e / j2 := Int.ediv_nonneg he (by omega)
  refine (Int.le_ediv_iff_mul_le h1).mpr ?_
  have e1 : e / j2 * j1 ≤ e / j2 * j2 := Int.mul_le_mul_of_nonneg_left h2 q0
  have e2 : e / j2 * j2 ≤ e := Int.ediv_mul_le e (by omega)
  omega
theorem div_mono_neg {e j1 j2 : Int} (h1 : 0 < j1) (h2 : j1 ≤ j2) (he : e < 0) : e / j1 ≤ e / j2 := by
  have q0 : e / j1 < 0 := Int.ediv_neg_of_neg_of_pos he h1
  refine (Int.le_ediv_iff_mul_le (by omega)).mpr ?_
  have e1 : e / j1 * j2 ≤ e / j1 * j1 := Int.mul_le_mul_of_nonpos_left (by omega) h2
  have e2 : e / j1 * j1 ≤ e := Int.ediv_mul_le e (by omega)
  omega

theorem quot_hull {a b c d m M : Int} (hab : a ≤ b) (hcd : c ≤ d) (hd : 0 < d)
    (hm : IsMin [a.fdiv (max c 1), a.fdiv d, b.fdiv (max c 1), b.fdiv d] m) (hM : IsMax [a.fdiv (max c 1), a.fdiv d, b.fdiv (max c 1), b.fdiv d] M) :
    IsMin (((prsOf a b c d).filter fun p => decide (0 < p.2)).map fun p => p.1.fdiv p.2) m ∧ IsMax (((prsOf a b c d).filter fun p => decide (0 < p.2)).map fun p => p.1.fdiv p.2) M := by
  have hlo : 0 < max c 1 := by omega
  have hld : max c 1 ≤ d := by omega
  have corner : ∀ v, v ∈ [a.fdiv (max c 1), a.fdiv d, b.fdiv (max c 1), b.fdiv d] → v ∈ ((prsOf a b c d).filter fun p => decide (0 < p.2)).map fun p => p.1.fdiv p.2 := fun v hv => by
    have mk : ∀ i j : Int, a ≤ i → i ≤ b → c ≤ j → j ≤ d → 0 < j → i.fdiv j ∈ ((prsOf a b c d).filter fun p => decide (0 < p.2)).map fun p => p.1.fdiv p.2 := fun i j h1 h2 h3 h4 h5 =>
      List.mem_map.mpr ⟨(i, j), List.mem_filter.mpr ⟨prs_iff.mpr ⟨h1, h2, h3, h4⟩, decide_eq_true h5⟩, rfl⟩
    simp only [List.mem_cons, List.not_mem_nil, or_false] at hv
    rcases hv with rfl | rfl | rfl | rfl
    · exact mk _ _ (by omega) (by omega) (by omega) (by omega) (by omega)
    · exact mk _ _ (by omega) (by omega) (by omega) (by omega) (by omega)
    · exact mk _ _ (by omega) (by omega) (by omega) (by omega) (by omega)
    · exact mk _ _ (by omega) (by omega) (by omega) (by omega) (by omega)
  have m1 := hm.2 _ (by simp : a.fdiv (max c 1) ∈ _); have m2 := hm.2 _ (by simp : a.fdiv d ∈ _)
  have M3 := hM.2 _ (by simp : b.fdiv (max c 1) ∈ _); have M4 := hM.2 _ (by simp : b.fdiv d ∈ _)
  rw [Int.fdiv_eq_ediv_of_nonneg _ (by omega)] at m1 m2 M3 M4
  refine ⟨⟨corner _ hm.1, fun x hx => ?_⟩, corner _ hM.1, fun x hx => ?_⟩
  all_goals
    obtain ⟨p, hp, rfl⟩ := List.mem_map.mp hx
    obtain ⟨hp1, hp2⟩ := List.mem_filter.mp hp
    obtain ⟨q1, q2, q3, q4⟩ := prs_iff.mp hp1
    have hj : 0 < p.2 := of_decide_eq_true hp2
    rw [Int.fdiv_eq_ediv_of_nonneg _ (by omega)]
  · have e1 : a / p.2 ≤ p.1 / p.2 := Int.ediv_le_ediv hj q1
    by_cases ha : 0 ≤ a
    · have := div_anti hj q4 ha; omega
    · have := div_mono_neg hlo (show max c 1 ≤ p.2 by omega) (by omega : a < 0); omega
  · have e1 : p.1 / p.2 ≤ b / p.2 := Int.ediv_le_ediv hj q2
    by_cases hb : 0 ≤ b
    · have := div_anti hlo (show max c 1 ≤ p.2 by omega) hb; omega
    · have := div_mono_neg hj q4 (by omega : b < 0); omega
theorem quot_none {a b c d : Int} (hd : d ≤ 0) : ((prsOf a b c d).filter fun p => decide (0 < p.2)) = [] := by
  refine List.filter_eq_nil_iff.mpr fun p hp => ?_
  have := prs_iff.mp hp
  simp; omega
end
end Mine

namespace Mine

section
variable {w : World} {h₀ : Heap} {mg mb : Str → Option Value} {n : Nat} {sc : Scope} {ρ : Rho}

/-- two data that are one: «l != r» is false -/
theorem Te.unsame {l r : Expr} {pos} {d : PyData} {prog : Program} (hl : Ev prog w h₀ n sc ρ l d) (hr : Ev prog w h₀ n sc ρ r d) (hd : SeqAt.shaped d = true) (hm : behindInMarks .NotEq r = false := by with_unfolding_all rfl) :
    Te prog w h₀ n sc ρ (.Compare l [.NotEq] [r] pos) false := Te.cmp hl hr (CmpD.unsame hd) hm

set_option maxHeartbeats 2000000 in
theorem results_spec (X : Ground h₀ mg mb) {a b c d : Int} (hx : Sp a b) (hy : Sp c d) : Fn pg w h₀ mg 4 26 [tI a b, tI c d] (.bool true) := by
  have x1 := hx.lo; have x2 := hx.le; have x3 := hx.hi; have x4 := hx.wd
  have y1 := hy.lo; have y2 := hy.le; have y3 := hy.hi; have y4 := hy.wd
  have hP := prs_len_le x4 y4
  have hmemx : Fn pg w h₀ mg 3 23 [tI a b] (.list ((mem a b).map .int)) := (members_spec X (by omega) (by omega) (by omega) (by omega)).mono (by decide)
  have hmemy : Fn pg w h₀ mg 3 23 [tI c d] (.list ((mem c d).map .int)) := (members_spec X (by omega) (by omega) (by omega) (by omega)).mono (by decide)
  have hlx : (mem a b).length ≤ 36 := by rw [mem_len]; omega
  have hly : (mem c d).length ≤ 36 := by rw [mem_len]; omega
  obtain ⟨m, hm⟩ := min4 (a := a * c) (b := a * d) (c := b * c) (d := b * d)
  obtain ⟨M, hM⟩ := max4 (a := a * c) (b := a * d) (c := b * c) (d := b * d)
  have bnd := prod_bnd hx hy hm hM
  have hq1 := sum_hull hx hy
  have hq2 := diff_hull hx hy
  have hq3 := prod_hull hx hy hm hM
  have hq4 := neg_hull x2
  have hq5 := abs_hull x2
  refine Fn.intro (ps := ["x", "y"]) X ?_ ?_ ?_ ?_ rfl ?_
  · -- the pairs
    refine Exs.cons (ρ' := [("pairs", .list ((prsOf a b c d).map tP)), ("x", tI a b), ("y", tI c d)]) ?_ ?_
    · refine Ex.storeC [("y", tI c d)] (Ev.dcall 23 X (Evs.cons (Ev.name rfl) Evs.nil) hmemx) ?_ ?_ ⟨⟨rfl, rfl, rfl⟩, True.intro⟩
      · have : (prsOf a b c d).map tP = (mem a b).flatMap fun i => (mem c d).map fun j => tI i j := by
          unfold prsOf; rw [List.map_flatMap]; simp only [List.map_map]; rfl
        rw [this]
        refine Cmp.deep2 (ds := fun _ => (mem c d).map .int) fun i hi => ⟨_, Bnd.name rfl rfl, Tsts.nil, Ev.dcall 23 X (Evs.cons (Ev.name rfl) Evs.nil) hmemy, ?_⟩
        exact Cmp.all1 fun j hj => ⟨_, Bnd.name rfl rfl, Tsts.nil, Ev.tuple (Evs.cons (Ev.name rfl) (Evs.cons (Ev.name rfl) Evs.nil))⟩
      · simp; omega
    -- add
    refine Exs.cons (ρ' := [("pairs", .list ((prsOf a b c d).map tP)), ("x", tI a b), ("y", tI c d)]) ?_ ?_
    · refine Ex.ifT (c := false) ?_ (by simp) (fun _ => Exs.nil)
      refine Te.unsame (Ev.dcall 5 X (Evs.cons (Ev.name rfl) (Evs.cons (Ev.name rfl) Evs.nil)) ((add_spec X (by omega) (by omega) (by omega)).mono (by decide))) ?_ (shTB _ _ _)
      refine Ev.tuple (Evs.cons (Ev.dcall 24 X (Evs.cons (over_pairs (Ev.name rfl) (fun _ _ => rfl) ?_ rfl rfl hP rfl rfl rfl rfl) Evs.nil) ((hull_spec X hq1.1 hq1.2).mono (by decide))) (Evs.cons Ev.bool Evs.nil))
      intro u hu
      exact Ev.add (Ev.name rfl) (Ev.name rfl)
    -- sub
    refine Exs.cons (ρ' := [("pairs", .list ((prsOf a b c d).map tP)), ("x", tI a b), ("y", tI c d)]) ?_ ?_
    · refine Ex.ifT (c := false) ?_ (by simp) (fun _ => Exs.nil)
      refine Te.unsame (Ev.dcall 6 X (Evs.cons (Ev.name rfl) (Evs.cons (Ev.name rfl) Evs.nil)) ((sub_spec X (by omega) (by omega) (by omega)).mono (by decide))) ?_ (shTB _ _ _)
      refine Ev.tuple (Evs.cons (Ev.dcall 24 X (Evs.cons (over_pairs (Ev.name rfl) (fun _ _ => rfl) ?_ rfl rfl hP rfl rfl rfl rfl) Evs.nil) ((hull_spec X hq2.1 hq2.2).mono (by decide))) (Evs.cons Ev.bool Evs.nil))
      intro u hu
      exact Ev.sub (Ev.name rfl) (Ev.name rfl)
    -- mul
    refine Exs.cons (ρ' := [("pairs", .list ((prsOf a b c d).map tP)), ("x", tI a b), ("y", tI c d)]) ?_ ?_
    · refine Ex.ifT (c := false) ?_ (by simp) (fun _ => Exs.nil)
      refine Te.unsame (Ev.dcall 7 X (Evs.cons (Ev.name rfl) (Evs.cons (Ev.name rfl) Evs.nil)) ((mul_spec X (by omega) (by omega) (by omega) (by omega) hm hM bnd.1 bnd.2).mono (by decide))) ?_ (shTB _ _ _)
      refine Ev.tuple (Evs.cons (Ev.dcall 24 X (Evs.cons (over_pairs (Ev.name rfl) (fun _ _ => rfl) ?_ rfl rfl hP rfl rfl rfl rfl) Evs.nil) ((hull_spec X hq3.1 hq3.2).mono (by decide))) (Evs.cons Ev.bool Evs.nil))
      intro u hu
      have := prs_iff.mp hu
      exact Ev.mul (Ev.name rfl) (Ev.name rfl) (mulOk (by omega) (by omega))
    -- neg
    refine Exs.cons (ρ' := [("pairs", .list ((prsOf a b c d).map tP)), ("x", tI a b), ("y", tI c d)]) ?_ ?_
    · refine Ex.ifT (c := false) ?_ (by simp) (fun _ => Exs.nil)
      refine Te.unsame (Ev.dcall 8 X (Evs.cons (Ev.name rfl) Evs.nil) ((neg_spec X (by omega) (by omega) (by omega)).mono (by decide))) ?_ (shTB _ _ _)
      refine Ev.tuple (Evs.cons (Ev.dcall 24 X (Evs.cons ?_ Evs.nil) ((hull_spec X hq4.1 hq4.2).mono (by decide))) (Evs.cons Ev.bool Evs.nil))
      refine (Ev.comp [] (Ev.dcall 23 X (Evs.cons (Ev.name rfl) Evs.nil) hmemx) (Cmp.all1 (g := fun i => .int (0 - i)) fun i hi => ⟨_, Bnd.name rfl rfl, Tsts.nil, Ev.sub Ev.int (Ev.name rfl)⟩) (by simp; omega) True.intro).to ?_
      rw [List.map_map]; rfl
    -- absolute
    refine Exs.cons (ρ' := [("pairs", .list ((prsOf a b c d).map tP)), ("x", tI a b), ("y", tI c d)]) ?_ ?_
    · refine Ex.ifT (c := false) ?_ (by simp) (fun _ => Exs.nil)
      refine Te.unsame (Ev.dcall 9 X (Evs.cons (Ev.name rfl) Evs.nil) ((absolute_spec X (by omega) (by omega) (by omega)).mono (by decide))) ?_ (shTB _ _ _)
      refine Ev.tuple (Evs.cons (Ev.dcall 24 X (Evs.cons ?_ Evs.nil) ((hull_spec X hq5.1 hq5.2).mono (by decide))) (Evs.cons Ev.bool Evs.nil))
      refine (Ev.comp [] (Ev.dcall 23 X (Evs.cons (Ev.name rfl) Evs.nil) hmemx) (Cmp.all1 (g := fun i => .int (if i < 0 then -i else i)) fun i hi => ⟨_, Bnd.name rfl rfl, Tsts.nil, Ev.blt X (Evs.cons (Ev.name rfl) Evs.nil) Ca.abs⟩) (by simp; omega) True.intro).to ?_
      rw [List.map_map]; rfl
    -- the quotients
    refine Exs.cons (ρ' := [("whole_parts", .list ((((prsOf a b c d).filter fun p => decide (0 < p.2)).map fun p => p.1.fdiv p.2).map .int)), ("pairs", .list ((prsOf a b c d).map tP)), ("x", tI a b), ("y", tI c d)]) ?_ ?_
    · refine Ex.storeC [] (ds := (prsOf a b c d).map tP) (Ev.name rfl) ?_ ?_ True.intro
      · rw [List.map_map]
        refine Cmp.filt1 (α := Int × Int) (f := tP) (g := fun p => .int (p.1.fdiv p.2)) (p := fun p => decide (0 < p.2)) fun u hu => ?_
        refine ⟨_, Bnd.pair rfl rfl rfl rfl, Tsts.one (Te.cmp (Ev.name rfl) Ev.int (CmpD.gt _ _)), fun hp => ?_⟩
        have := prs_iff.mp hu
        have hj := of_decide_eq_true hp
        exact Ev.div (Ev.name rfl) (Ev.name rfl) (by omega) (by omega)
      · have := List.length_filter_le (fun p : Int × Int => decide (0 < p.2)) (prsOf a b c d)
        simp only [List.length_map]; omega
    by_cases hd : 0 < d
    · obtain ⟨m', hm'⟩ := min4 (a := a.fdiv (max c 1)) (b := a.fdiv d) (c := b.fdiv (max c 1)) (d := b.fdiv d)
      obtain ⟨M', hM'⟩ := max4 (a := a.fdiv (max c 1)) (b := a.fdiv d) (c := b.fdiv (max c 1)) (d := b.fdiv d)
      have hq := quot_hull x2 y2 hd hm' hM'
      refine Exs.cons (Ex.store2 (Ev.dcall 10 X (Evs.cons (Ev.name rfl) (Evs.cons (Ev.name rfl) Evs.nil)) ((div_spec X hd (by omega) y2 hm' hM').mono (by decide)))) ?_
      refine Exs.cons (Ex.ifT (c := false) ((Te.cmp (Ev.name rfl) (Ev.cmp (Ev.item (Ev.name rfl)) Ev.int (CmpD.le _ _)) (CmpD.neB _ _)).to (by simp)) (by simp) (fun _ => Exs.nil)) ?_
      refine Exs.ret ?_
      refine Ex.ret ?_
      refine Ev.or2 (b := false) ((Ev.cmp (Ev.name rfl) (Ev.list Evs.nil) (CmpD.eq (shLI _) (shLI []))).to ?_) (fun _ => (Ev.cmp (Ev.name rfl) (Ev.dcall 24 X (Evs.cons (Ev.name rfl) Evs.nil) ((hull_spec X hq.1 hq.2).mono (by decide))) (CmpD.same (shT _ _)))) (by simp)
      have hne := hq.1.1
      revert hne
      generalize ((prsOf a b c d).filter fun p => decide (0 < p.2)).map (fun p => p.1.fdiv p.2) = L
      intro hne
      cases L with
      | nil => simp at hne
      | cons y ys => simp [PyData.eqv, PyData.eqvAll]
    · refine Exs.cons (Ex.store2 (Ev.dcall 10 X (Evs.cons (Ev.name rfl) (Evs.cons (Ev.name rfl) Evs.nil)) ((div_neg_spec X (by omega) y2).mono (by decide)))) ?_
      refine Exs.cons (Ex.ifT (c := false) ((Te.cmp (Ev.name rfl) (Ev.cmp (Ev.item (Ev.name rfl)) Ev.int (CmpD.le _ _)) (CmpD.neB _ _)).to (by rw [decide_eq_true (by omega)]; rfl)) (by simp) (fun _ => Exs.nil)) ?_
      refine Exs.ret ?_
      refine Ex.ret ?_
      rw [quot_none (by omega)]
      exact Ev.or2 (b := true) ((Ev.cmp (Ev.name rfl) (Ev.list Evs.nil) (CmpD.eq (shLI []) (shLI []))).to (by simp [PyData.eqv, PyData.eqvAll])) (by simp) (by simp)
  · intro pm cd doc vs hv
    match vs, hv with
    | [_, _], _ => rfl
  · decide +kernel
  · decide +kernel
  · decide +kernel
end
end Mine

namespace Mine

theorem shLTT (ps : List (Int × Int)) : SeqAt.shaped (.list (ps.map tP)) = true := by
  have h : ∀ ps : List (Int × Int), PyData.canLayAll0 (ps.map tP) = true ∧ PyData.depthAll (ps.map tP) ≤ 1 := fun ps => by
    induction ps with
    | nil => simp [PyData.canLayAll0, PyData.depthAll]
    | cons n ns ih =>
      obtain ⟨h1, h2⟩ := ih
      rw [List.map_cons, PyData.canLayAll0, PyData.depthAll]
      refine ⟨by rw [h1]; simp [PyData.canLay0, PyData.canLayAll0], Nat.max_le.mpr ⟨?_, h2⟩⟩
      simp [PyData.depth, PyData.depthAll]
  have := h ps
  unfold SeqAt.shaped
  rw [PyData.canLay0, this.1, PyData.depth]
  simp; omega

section
variable {prog : Program} {w : World} {h₀ : Heap} {mg mb : Str → Option Value} {n : Nat} {sc : Scope} {ρ : Rho}

theorem Fn.to {i : Nat} {ds : List PyData} {d d' : PyData} (h : Fn prog w h₀ mg n i ds d) (e : d = d') : Fn prog w h₀ mg n i ds d' := e ▸ h

/-- what is known, in part -/
def SubR (ρ : Rho) : Rho → Prop
  | [] => True
  | (x, d) :: r => ρ.lookup x = some d ∧ SubR ρ r
theorem SubR.get {ρ : Rho} : ∀ {r : Rho} {x : Str} {d : PyData}, SubR ρ r → r.lookup x = some d → ρ.lookup x = some d
  | (y, e) :: r, x, d, h, hx => by
    rw [List.lookup_cons] at hx
    by_cases hxy : x = y
    · subst hxy
      simp only [beq_self_eq_true, Option.some.injEq] at hx
      subst hx
      exact h.1
    · rw [beq_eq_false_iff_ne.mpr hxy] at hx
      exact h.2.get hx
theorem SS.less {H : Addr → Prop} {env : Env} {h : Heap} {ρ' : Rho} (S : SS h₀ H env ρ h) (hs : SubR ρ ρ') : SS h₀ H env ρ' h :=
  ⟨⟨S.base, S.live, let ⟨m, hn, hv⟩ := S.loc; ⟨m, hn, fun x d e => hv x d (hs.get e)⟩⟩, S.own, S.fro, S.new⟩
theorem Exs.less {sts : List Stmt} {ρ1 ρ2 : Rho} (h : Exs prog w h₀ n sc ρ sts (.next ρ1)) (hs : SubR ρ1 ρ2) : Exs prog w h₀ n sc ρ sts (.next ρ2) :=
  fun A env s H Q E R G S hQ => h A env s H Q E R G S fun f h' tk k ho => hQ f h' tk k ⟨ho.1, ho.2.less hs⟩
theorem Ex.less {st : Stmt} {ρ1 ρ2 : Rho} (h : Ex prog w h₀ n sc ρ st (.next ρ1)) (hs : SubR ρ1 ρ2) : Ex prog w h₀ n sc ρ st (.next ρ2) :=
  fun A env s H Q E R G S hQ => h A env s H Q E R G S fun f h' tk k ho => hQ f h' tk k ⟨ho.1, ho.2.less hs⟩
theorem Forr.const {x : Str} {body : List Stmt} {ds : List PyData} (h : ∀ d ∈ ds, Exs prog w h₀ n sc ((x, d) :: ρ) body (.next ρ)) : Forr prog w h₀ n sc x body ρ ds (.next ρ) := by
  induction ds with
  | nil => exact .nil
  | cons d ds ih => exact .next (h d List.mem_cons_self) (ih fun e he => h e (List.mem_cons_of_mem _ he))

/-! the pairs that a relation keeps -/
def keptOf (rel : Int → Int → Bool) (a b c d : Int) : List (Int × Int) := (prsOf a b c d).filter fun p => rel p.1 p.2
def Kin (rel : Int → Int → Bool) (a b c d i j : Int) : Prop := a ≤ i ∧ i ≤ b ∧ c ≤ j ∧ j ≤ d ∧ rel i j = true
theorem kept_iff {rel : Int → Int → Bool} {a b c d : Int} {p : Int × Int} : p ∈ keptOf rel a b c d ↔ Kin rel a b c d p.1 p.2 := by
  unfold keptOf Kin
  rw [List.mem_filter, prs_iff]
  constructor
  · rintro ⟨⟨h1, h2, h3, h4⟩, h5⟩; exact ⟨h1, h2, h3, h4, h5⟩
  · rintro ⟨h1, h2, h3, h4, h5⟩; exact ⟨⟨h1, h2, h3, h4⟩, h5⟩

def DueIs (kept : List (Int × Int)) (due : PyData) : Prop :=
  (kept = [] ∧ due = .none) ∨ ∃ m1 M1 m2 M2, IsMin (kept.map (·.1)) m1 ∧ IsMax (kept.map (·.1)) M1 ∧ IsMin (kept.map (·.2)) m2 ∧ IsMax (kept.map (·.2)) M2 ∧ due = .tuple [tI m1 M1, tI m2 M2]
theorem DueIs.shaped {kept : List (Int × Int)} {due : PyData} (h : DueIs kept due) : SeqAt.shaped due = true := by
  rcases h with ⟨_, rfl⟩ | ⟨_, _, _, _, _, _, _, _, rfl⟩
  · exact shN
  · exact shTT _ _ _ _

section
variable {rel : Int → Int → Bool} {a b c d : Int}
theorem due_none (h : ∀ i j, ¬ Kin rel a b c d i j) : DueIs (keptOf rel a b c d) .none :=
  .inl ⟨List.eq_nil_iff_forall_not_mem.mpr fun p hp => h _ _ (kept_iff.mp hp), rfl⟩
theorem due_some {m1 M1 m2 M2 : Int} (h1 : ∃ j, Kin rel a b c d m1 j) (h2 : ∃ j, Kin rel a b c d M1 j) (h3 : ∃ i, Kin rel a b c d i m2) (h4 : ∃ i, Kin rel a b c d i M2)
    (hb : ∀ i j, Kin rel a b c d i j → (m1 ≤ i ∧ i ≤ M1) ∧ m2 ≤ j ∧ j ≤ M2) : DueIs (keptOf rel a b c d) (.tuple [tI m1 M1, tI m2 M2]) := by
  obtain ⟨j1, k1⟩ := h1; obtain ⟨j2, k2⟩ := h2; obtain ⟨i3, k3⟩ := h3; obtain ⟨i4, k4⟩ := h4
  refine .inr ⟨m1, M1, m2, M2, ⟨List.mem_map.mpr ⟨(m1, j1), kept_iff.mpr k1, rfl⟩, ?_⟩, ⟨List.mem_map.mpr ⟨(M1, j2), kept_iff.mpr k2, rfl⟩, ?_⟩, ⟨List.mem_map.mpr ⟨(i3, m2), kept_iff.mpr k3, rfl⟩, ?_⟩, ⟨List.mem_map.mpr ⟨(i4, M2), kept_iff.mpr k4, rfl⟩, ?_⟩, rfl⟩
  all_goals
    intro x hx
    obtain ⟨p, hp, rfl⟩ := List.mem_map.mp hx
    have := hb _ _ (kept_iff.mp hp)
    omega

def rEq (i j : Int) : Bool := decide (i = j)
def rNe (i j : Int) : Bool := !decide (i = j)
def rLt (i j : Int) : Bool := decide (i < j)
def rGe (i j : Int) : Bool := !decide (i < j)
def rLe (i j : Int) : Bool := decide (i ≤ j)
def rGt (i j : Int) : Bool := !decide (i ≤ j)

theorem due_eq : DueIs (keptOf rEq a b c d) (if max a c ≤ min b d then .tuple [tI (max a c) (min b d), tI (max a c) (min b d)] else .none) := by
  by_cases h : max a c ≤ min b d
  · rw [if_pos h]
    refine due_some ⟨max a c, ?_⟩ ⟨min b d, ?_⟩ ⟨max a c, ?_⟩ ⟨min b d, ?_⟩ fun i j k => ?_
    all_goals simp only [Kin, rEq, decide_eq_true_eq, and_true] at *
    all_goals omega
  · rw [if_neg h]
    refine due_none fun i j k => ?_
    simp only [Kin, rEq, decide_eq_true_eq] at k
    omega
theorem due_lt (hab : a ≤ b) (hcd : c ≤ d) : DueIs (keptOf rLt a b c d) (belowD a b c d 1) := by
  unfold belowD
  by_cases h : a + 1 ≤ d
  · rw [if_pos h]
    refine due_some ⟨d, ?_⟩ ⟨d, ?_⟩ ⟨a, ?_⟩ ⟨a, ?_⟩ fun i j k => ?_
    all_goals simp only [Kin, rLt, decide_eq_true_eq] at *
    all_goals omega
  · rw [if_neg h]
    refine due_none fun i j k => ?_
    simp only [Kin, rLt, decide_eq_true_eq] at k
    omega
theorem due_le (hab : a ≤ b) (hcd : c ≤ d) : DueIs (keptOf rLe a b c d) (belowD a b c d 0) := by
  unfold belowD
  by_cases h : a + 0 ≤ d
  · rw [if_pos h]
    refine due_some ⟨d, ?_⟩ ⟨d, ?_⟩ ⟨a, ?_⟩ ⟨a, ?_⟩ fun i j k => ?_
    all_goals simp only [Kin, rLe, decide_eq_true_eq] at *
    all_goals omega
  · rw [if_neg h]
    refine due_none fun i j k => ?_
    simp only [Kin, rLe, decide_eq_true_eq] at k
    omega
theorem due_gt (hab : a ≤ b) (hcd : c ≤ d) : DueIs (keptOf rGt a b c d) (if c + 1 ≤ b then .tuple [tI (max a (c + 1)) b, tI c (min d (b - 1))] else .none) := by
  by_cases h : c + 1 ≤ b
  · rw [if_pos h]
    refine due_some ⟨c, ?_⟩ ⟨c, ?_⟩ ⟨b, ?_⟩ ⟨b, ?_⟩ fun i j k => ?_
    all_goals simp only [Kin, rGt, Bool.not_eq_true', decide_eq_false_iff_not] at *
    all_goals omega
  · rw [if_neg h]
    refine due_none fun i j k => ?_
    simp only [Kin, rGt, Bool.not_eq_true', decide_eq_false_iff_not] at k
    omega
theorem due_ge (hab : a ≤ b) (hcd : c ≤ d) : DueIs (keptOf rGe a b c d) (if c + 0 ≤ b then .tuple [tI (max a (c + 0)) b, tI c (min d (b - 0))] else .none) := by
  by_cases h : c + 0 ≤ b
  · rw [if_pos h]
    refine due_some ⟨c, ?_⟩ ⟨c, ?_⟩ ⟨b, ?_⟩ ⟨b, ?_⟩ fun i j k => ?_
    all_goals simp only [Kin, rGe, Bool.not_eq_true', decide_eq_false_iff_not] at *
    all_goals omega
  · rw [if_neg h]
    refine due_none fun i j k => ?_
    simp only [Kin, rGe, Bool.not_eq_true', decide_eq_false_iff_not] at k
    omega
theorem due_ne (hab : a ≤ b) (hcd : c ≤ d) : DueIs (keptOf rNe a b c d) (apartD a b c d) := by
  unfold apartD apartL
  by_cases h1 : c = d
  · by_cases h2 : a = b
    · rw [if_pos h1, if_pos h2]
      subst h1 h2
      by_cases h3 : a = c
      · subst h3
        rw [show pairD (withoutD a a a) (withoutD a a a) = .none by simp [withoutD, pairD, isNoneD]]
        refine due_none fun i j k => ?_
        simp only [Kin, rNe, Bool.not_eq_true', decide_eq_false_iff_not] at k
        omega
      · rw [show pairD (withoutD a a c) (withoutD c c a) = .tuple [tI a a, tI c c] by simp [withoutD, pairD, isNoneD, h3, Ne.symm h3]]
        refine due_some ⟨c, ?_⟩ ⟨c, ?_⟩ ⟨a, ?_⟩ ⟨a, ?_⟩ fun i j k => ?_
        all_goals simp only [Kin, rNe, Bool.not_eq_true', decide_eq_false_iff_not] at *
        all_goals omega
    · rw [if_pos h1, if_neg h2]
      subst h1
      by_cases h3 : a = c
      · have h4 : ¬ b = c := by omega
        rw [show pairD (withoutD a b c) (tI c c) = .tuple [tI (c + 1) b, tI c c] by simp [withoutD, pairD, isNoneD, h3, h4]]
        refine due_some ⟨c, ?_⟩ ⟨c, ?_⟩ ⟨b, ?_⟩ ⟨b, ?_⟩ fun i j k => ?_
        all_goals simp only [Kin, rNe, Bool.not_eq_true', decide_eq_false_iff_not] at *
        all_goals omega
      · by_cases h4 : b = c
        · rw [show pairD (withoutD a b c) (tI c c) = .tuple [tI a (c - 1), tI c c] by simp [withoutD, pairD, isNoneD, h3, h4]]
          refine due_some ⟨c, ?_⟩ ⟨c, ?_⟩ ⟨a, ?_⟩ ⟨a, ?_⟩ fun i j k => ?_
          all_goals simp only [Kin, rNe, Bool.not_eq_true', decide_eq_false_iff_not] at *
          all_goals omega
        · rw [show pairD (withoutD a b c) (tI c c) = .tuple [tI a b, tI c c] by simp [withoutD, pairD, isNoneD, h3, h4]]
          refine due_some ⟨c, ?_⟩ ⟨c, ?_⟩ ⟨a, ?_⟩ ⟨a, ?_⟩ fun i j k => ?_
          all_goals simp only [Kin, rNe, Bool.not_eq_true', decide_eq_false_iff_not] at *
          all_goals omega
  · by_cases h2 : a = b
    · rw [if_neg h1, if_pos h2]
      subst h2
      by_cases h3 : c = a
      · have h4 : ¬ d = a := by omega
        rw [show pairD (tI a a) (withoutD c d a) = .tuple [tI a a, tI (a + 1) d] by simp [withoutD, pairD, isNoneD, h3, h4]]
        refine due_some ⟨d, ?_⟩ ⟨d, ?_⟩ ⟨a, ?_⟩ ⟨a, ?_⟩ fun i j k => ?_
        all_goals simp only [Kin, rNe, Bool.not_eq_true', decide_eq_false_iff_not] at *
        all_goals omega
      · by_cases h4 : d = a
        · rw [show pairD (tI a a) (withoutD c d a) = .tuple [tI a a, tI c (a - 1)] by simp [withoutD, pairD, isNoneD, h3, h4]]
          refine due_some ⟨c, ?_⟩ ⟨c, ?_⟩ ⟨a, ?_⟩ ⟨a, ?_⟩ fun i j k => ?_
          all_goals simp only [Kin, rNe, Bool.not_eq_true', decide_eq_false_iff_not] at *
          all_goals omega
        · rw [show pairD (tI a a) (withoutD c d a) = .tuple [tI a a, tI c d] by simp [withoutD, pairD, isNoneD, h3, h4]]
          refine due_some ⟨c, ?_⟩ ⟨c, ?_⟩ ⟨a, ?_⟩ ⟨a, ?_⟩ fun i j k => ?_
          all_goals simp only [Kin, rNe, Bool.not_eq_true', decide_eq_false_iff_not] at *
          all_goals omega
    · rw [if_neg h1, if_neg h2]
      rw [show pairD (tI a b) (tI c d) = .tuple [tI a b, tI c d] by simp [pairD, isNoneD]]
      refine due_some ⟨if a = c then d else c, ?_⟩ ⟨if b = c then d else c, ?_⟩ ⟨if a = c then b else a, ?_⟩ ⟨if a = d then b else a, ?_⟩ fun i j k => ?_
      all_goals simp only [Kin, rNe, Bool.not_eq_true', decide_eq_false_iff_not] at *
      all_goals (try split)
      all_goals omega
end
end
end Mine

namespace Mine

section
variable {w : World} {h₀ : Heap} {mg mb : Str → Option Value} {n : Nat} {sc : Scope} {ρ : Rho}

structure RelOk (w : World) (h₀ : Heap) (mg : Str → Option Value) (a b c d : Int) (op op' : Str) (rel : Int → Int → Bool) (due : PyData) : Prop where
  ok : PyData.strOk op = true
  rel1 : ∀ i j : Int, Fn pg w h₀ mg 3 25 [tS op, .int i, .int j] (.bool (rel i j))
  rel2 : ∀ i j : Int, Fn pg w h₀ mg 3 25 [tS op', .int i, .int j] (.bool (!rel i j))
  opp1 : Fn pg w h₀ mg 3 19 [tS op] (tS op')
  opp2 : Fn pg w h₀ mg 3 19 [tS op'] (tS op)
  nar : Fn pg w h₀ mg 3 18 [tS op, tI a b, tI c d] due
  due : DueIs (keptOf rel a b c d) due

theorem relOks (X : Ground h₀ mg mb) {a b c d : Int} (hx : Sp a b) (hy : Sp c d) :
    (∃ due, RelOk w h₀ mg a b c d "=" "#" rEq due) ∧ (∃ due, RelOk w h₀ mg a b c d "#" "=" rNe due) ∧ (∃ due, RelOk w h₀ mg a b c d "<" ">=" rLt due) ∧
    (∃ due, RelOk w h₀ mg a b c d "<=" ">" rLe due) ∧ (∃ due, RelOk w h₀ mg a b c d ">" "<=" rGt due) ∧ (∃ due, RelOk w h₀ mg a b c d ">=" "<" rGe due) := by
  have x1 := hx.lo; have x2 := hx.le; have x3 := hx.hi
  have y1 := hy.lo; have y2 := hy.le; have y3 := hy.hi
  have bE : (("=" : Str) == "=") = true := by decide +kernel
  have bN : (("#" : Str) == "=") = false := by decide +kernel
  have bL : (("<" : Str) == "<") = true := by decide +kernel
  have bG : ((">=" : Str) == "<") = false := by decide +kernel
  have bM : (("<=" : Str) == "<=") = true := by decide +kernel
  have bH : ((">" : Str) == "<=") = false := by decide +kernel
  have eEq : ∀ i j : Int, Fn pg w h₀ mg 3 25 [tS "=", .int i, .int j] (.bool (rEq i j)) := fun i j => ((rel12_spec X (by decide +kernel) (by decide +kernel)).mono (by decide)).to (by rw [bE]; by_cases h : i = j <;> simp [rEq, h])
  have eNe : ∀ i j : Int, Fn pg w h₀ mg 3 25 [tS "#", .int i, .int j] (.bool (rNe i j)) := fun i j => ((rel12_spec X (by decide +kernel) (by decide +kernel)).mono (by decide)).to (by rw [bN]; by_cases h : i = j <;> simp [rNe, h])
  have eLt : ∀ i j : Int, Fn pg w h₀ mg 3 25 [tS "<", .int i, .int j] (.bool (rLt i j)) := fun i j => ((rel34_spec X (by decide +kernel) (by decide +kernel) (by decide +kernel)).mono (by decide)).to (by rw [bL]; simp [rLt])
  have eGe : ∀ i j : Int, Fn pg w h₀ mg 3 25 [tS ">=", .int i, .int j] (.bool (rGe i j)) := fun i j => ((rel34_spec X (by decide +kernel) (by decide +kernel) (by decide +kernel)).mono (by decide)).to (by rw [bG]; by_cases h : i < j <;> simp [rGe, h])
  have eLe : ∀ i j : Int, Fn pg w h₀ mg 3 25 [tS "<=", .int i, .int j] (.bool (rLe i j)) := fun i j => ((rel56_spec X (by decide +kernel) (by decide +kernel) (by decide +kernel)).mono (by decide)).to (by rw [bM]; simp [rLe])
  have eGt : ∀ i j : Int, Fn pg w h₀ mg 3 25 [tS ">", .int i, .int j] (.bool (rGt i j)) := fun i j => ((rel56_spec X (by decide +kernel) (by decide +kernel) (by decide +kernel)).mono (by decide)).to (by rw [bH]; by_cases h : i ≤ j <;> simp [rGt, h])
  have opp : ∀ {x y : Str}, (oppT.find? fun p => p.1 == x) = some (x, y) → Fn pg w h₀ mg 3 19 [tS x] (tS y) := fun h => (opposite_spec X h).mono (by decide)
  refine ⟨⟨_, ⟨by decide +kernel, eEq, fun i j => (eNe i j).to (by simp [rEq, rNe]), opp (by decide +kernel), opp (by decide +kernel), (narrow_eq_spec X).mono (by decide), due_eq⟩⟩,
    ⟨_, ⟨by decide +kernel, eNe, fun i j => (eEq i j).to (by simp [rEq, rNe]), opp (by decide +kernel), opp (by decide +kernel), narrow_ne_spec X, due_ne x2 y2⟩⟩,
    ⟨_, ⟨by decide +kernel, eLt, fun i j => (eGe i j).to (by simp [rLt, rGe]), opp (by decide +kernel), opp (by decide +kernel), narrow_lt_spec (by omega) (by omega) (by omega) (by omega) (by omega) (by omega) X, due_lt x2 y2⟩⟩,
    ⟨_, ⟨by decide +kernel, eLe, fun i j => (eGt i j).to (by simp [rLe, rGt]), opp (by decide +kernel), opp (by decide +kernel), narrow_le_spec (by omega) (by omega) (by omega) (by omega) (by omega) (by omega) X, due_le x2 y2⟩⟩,
    ⟨_, ⟨by decide +kernel, eGt, fun i j => (eLe i j).to (by simp [rLe, rGt]), opp (by decide +kernel), opp (by decide +kernel), narrow_gt_spec (by omega) (by omega) (by omega) (by omega) (by omega) (by omega) X, due_gt x2 y2⟩⟩,
    ⟨_, ⟨by decide +kernel, eGe, fun i j => (eLt i j).to (by simp [rLt, rGe]), opp (by decide +kernel), opp (by decide +kernel), narrow_ge_spec (by omega) (by omega) (by omega) (by omega) (by omega) (by omega) X, due_ge x2 y2⟩⟩⟩
end
end Mine

namespace Mine

def relBody : List Stmt := match (defAt 27).body with
  | .For _ _ b _ _ :: _ => b
  | _ => []

theorem kept_data (rel : Int → Int → Bool) (a b c d : Int) : (keptOf rel a b c d).map tP = (mem a b).flatMap fun i => ((mem c d).filter fun j => rel i j).map fun j => tI i j := by
  unfold keptOf prsOf
  rw [List.filter_flatMap, List.map_flatMap]
  congr 1
  funext i
  rw [List.filter_map, List.map_map]
  rfl

section
variable {w : World} {h₀ : Heap} {mg mb : Str → Option Value} {n : Nat} {sc : Scope} {ρ : Rho}

set_option maxHeartbeats 2000000 in
theorem rel_turn (X : Ground h₀ mg mb) {a b c d : Int} {op op' : Str} {rel : Int → Int → Bool} {due : PyData} (hx : Sp a b) (hy : Sp c d) (O : RelOk w h₀ mg a b c d op op' rel due) :
    Exs pg w h₀ 3 (defAt 27).scope [("op", tS op), ("x", tI a b), ("y", tI c d)] relBody (.next [("x", tI a b), ("y", tI c d)]) := by
  have x1 := hx.lo; have x2 := hx.le; have x3 := hx.hi; have x4 := hx.wd
  have y1 := hy.lo; have y2 := hy.le; have y3 := hy.hi; have y4 := hy.wd
  have hP := prs_len_le x4 y4
  have hK : (keptOf rel a b c d).length ≤ 36 := Nat.le_trans (List.length_filter_le _ _) hP
  have hmemx : Fn pg w h₀ mg 3 23 [tI a b] (.list ((mem a b).map .int)) := (members_spec X (by omega) (by omega) (by omega) (by omega)).mono (by decide)
  have hmemy : Fn pg w h₀ mg 3 23 [tI c d] (.list ((mem c d).map .int)) := (members_spec X (by omega) (by omega) (by omega) (by omega)).mono (by decide)
  -- the pairs kept
  refine Exs.cons (ρ' := [("kept_pairs", .list ((keptOf rel a b c d).map tP)), ("op", tS op), ("x", tI a b), ("y", tI c d)]) ?_ ?_
  · refine Ex.storeC [("op", tS op), ("y", tI c d)] (Ev.dcall 23 X (Evs.cons (Ev.name rfl) Evs.nil) hmemx) ?_ ?_ ⟨⟨rfl, rfl, rfl⟩, ⟨rfl, rfl, rfl⟩, True.intro⟩
    · rw [kept_data]
      refine Cmp.deep2 (ds := fun _ => (mem c d).map .int) fun i hi => ⟨_, Bnd.name rfl rfl, Tsts.nil, Ev.dcall 23 X (Evs.cons (Ev.name rfl) Evs.nil) hmemy, ?_⟩
      refine Cmp.filt1 (p := fun j => rel i j) fun j hj => ?_
      refine ⟨_, Bnd.name rfl rfl, Tsts.one (Te.val (Ev.dcall 25 X (Evs.cons (Ev.name rfl) (Evs.cons (Ev.name rfl) (Evs.cons (Ev.name rfl) Evs.nil))) (O.rel1 i j))), fun _ => ?_⟩
      exact Ev.tuple (Evs.cons (Ev.name rfl) (Evs.cons (Ev.name rfl) Evs.nil))
    · simp; omega
  refine Exs.cons (Ex.store Ev.none) ?_
  -- what is due
  refine Exs.cons (ρ' := [("due", due), ("kept_pairs", .list ((keptOf rel a b c d).map tP)), ("op", tS op), ("x", tI a b), ("y", tI c d)]) ?_ ?_
  · rcases O.due with ⟨hk, hd⟩ | ⟨m1, M1, m2, M2, q1, q2, q3, q4, hd⟩
    · rw [hk, hd]
      refine Ex.ifT (c := false) ((Te.cmp (Ev.name rfl) (Ev.list Evs.nil) (CmpD.ne (shLTT []) (shLI []))).to (by simp [PyData.eqv, PyData.eqvAll])) (by simp) (fun _ => Exs.nil)
    · rw [hd]
      refine Ex.ifT (c := true) ((Te.cmp (Ev.name rfl) (Ev.list Evs.nil) (CmpD.ne (shLTT _) (shLI []))).to ?_) (fun _ => ?_) (by simp)
      · have := q1.1
        revert this
        generalize keptOf rel a b c d = L
        intro this
        cases L with
        | nil => simp at this
        | cons y ys => simp [PyData.eqv, PyData.eqvAll]
      · refine (Exs.cons (Ex.store (Ev.tuple (Evs.cons (Ev.dcall 24 X (Evs.cons (over_pairs (Ev.name rfl) (fun _ _ => rfl) ?_ rfl rfl hK rfl rfl rfl rfl) Evs.nil) ((hull_spec X q1 q2).mono (by decide)))
          (Evs.cons (Ev.dcall 24 X (Evs.cons (over_pairs (Ev.name rfl) (fun _ _ => rfl) ?_ rfl rfl hK rfl rfl rfl rfl) Evs.nil) ((hull_spec X q3 q4).mono (by decide))) Evs.nil)))) Exs.nil).less ⟨rfl, rfl, rfl, rfl, rfl, True.intro⟩
        · intro u hu; exact Ev.name rfl
        · intro u hu; exact Ev.name rfl
  -- narrow, the opposite's opposite
  refine Exs.cons (ρ' := [("due", due), ("kept_pairs", .list ((keptOf rel a b c d).map tP)), ("op", tS op), ("x", tI a b), ("y", tI c d)]) ?_ ?_
  · have hS : SeqAt.shaped (tS op) = true := by simp [SeqAt.shaped, PyData.canLay0, PyData.depth, O.ok]
    refine Ex.ifT (c := false) (Te.or (Ors.go ?_ (Ors.go ?_ Ors.nil))) (by simp) (fun _ => Exs.nil)
    · exact Te.unsame (Ev.dcall 18 X (Evs.cons (Ev.name rfl) (Evs.cons (Ev.name rfl) (Evs.cons (Ev.name rfl) Evs.nil))) O.nar) (Ev.name rfl) O.due.shaped
    · exact Te.unsame (Ev.dcall 19 X (Evs.cons (Ev.dcall 19 X (Evs.cons (Ev.name rfl) Evs.nil) O.opp1) Evs.nil) O.opp2) (Ev.name rfl) hS
  -- its opposite holds the others
  refine Exs.cons (ρ' := [("due", due), ("kept_pairs", .list ((keptOf rel a b c d).map tP)), ("op", tS op), ("x", tI a b), ("y", tI c d)]) ?_ ?_
  · refine Ex.forL (Ev.dcall 23 X (Evs.cons (Ev.name rfl) Evs.nil) hmemx) (Forr.const fun e he => ?_)
    obtain ⟨i, hi, rfl⟩ := List.mem_map.mp he
    refine (Exs.cons (ρ' := [("one", .int i), ("due", due), ("kept_pairs", .list ((keptOf rel a b c d).map tP)), ("op", tS op), ("x", tI a b), ("y", tI c d)]) ?_ Exs.nil).less ⟨rfl, rfl, rfl, rfl, rfl, True.intro⟩
    refine Ex.ifT (c := false) ?_ (by simp) (fun _ => Exs.nil)
    refine (Te.cmp (Ev.dcall 25 X (Evs.cons (Ev.name rfl) (Evs.cons (Ev.name rfl) (Evs.cons (Ev.item (Ev.name rfl)) Evs.nil))) (O.rel1 i c))
      (Ev.dcall 25 X (Evs.cons (Ev.dcall 19 X (Evs.cons (Ev.name rfl) Evs.nil) O.opp1) (Evs.cons (Ev.name rfl) (Evs.cons (Ev.item (Ev.name rfl)) Evs.nil))) (O.rel2 i c)) (CmpD.eqB _ _)).to ?_
    cases rel i c <;> rfl
  exact Exs.nil.less ⟨rfl, rfl, True.intro⟩

theorem relations_spec (X : Ground h₀ mg mb) {a b c d : Int} (hx : Sp a b) (hy : Sp c d) : Fn pg w h₀ mg 4 27 [tI a b, tI c d] (.bool true) := by
  obtain ⟨⟨d1, o1⟩, ⟨d2, o2⟩, ⟨d3, o3⟩, ⟨d4, o4⟩, ⟨d5, o5⟩, ⟨d6, o6⟩⟩ := relOks (w := w) X hx hy
  refine Fn.intro (ps := ["x", "y"]) X ?_ ?_ ?_ ?_ rfl ?_
  · refine Exs.cons (ρ' := [("x", tI a b), ("y", tI c d)]) ?_ ?_
    · refine Ex.forL (ds := [tS "=", tS "#", tS "<", tS "<=", tS ">", tS ">="]) (Ev.list (Evs.cons Ev.str (Evs.cons Ev.str (Evs.cons Ev.str (Evs.cons Ev.str (Evs.cons Ev.str (Evs.cons Ev.str Evs.nil))))))) ?_
      exact .next (rel_turn X hx hy o1) (.next (rel_turn X hx hy o2) (.next (rel_turn X hx hy o3) (.next (rel_turn X hx hy o4) (.next (rel_turn X hx hy o5) (.next (rel_turn X hx hy o6) .nil)))))
    refine Exs.ret ?_
    refine Ex.ret ?_
    exact Ev.bool
  · intro pm cd doc vs hv
    match vs, hv with
    | [_, _], _ => rfl
  · decide +kernel
  · decide +kernel
  · decide +kernel
end
end Mine

namespace Mine

theorem canI (ns : List Int) : PyData.canLayAll0 (ns.map .int) = true := by
  induction ns with
  | nil => simp [PyData.canLayAll0]
  | cons n ns ih => simp [PyData.canLayAll0, PyData.canLay0, ih]
theorem any_in (ns : List Int) (i : Int) : ((ns.map PyData.int).any fun y => PyData.eqv y (.int i)) = decide (i ∈ ns) := by
  induction ns with
  | nil => simp
  | cons n ns ih =>
    rw [List.map_cons, List.any_cons, ih]
    by_cases h : n = i
    · subst h; simp [PyData.eqv]
    · have h' : i ≠ n := fun e => h e.symm
      simp [PyData.eqv, h, h']
theorem meet_comm (a b c d : Int) : meetD c d a b = meetD a b c d := by
  unfold meetD; rw [Int.max_comm c a, Int.min_comm d b]
theorem meet_shaped (a b c d : Int) : SeqAt.shaped (meetD a b c d) = true := by
  unfold meetD; split
  · exact shT _ _
  · exact shN
theorem meet_in {a b c d : Int} (h1 : c ≤ a) (h2 : b ≤ d) (h3 : a ≤ b) : meetD a b c d = tI a b := by
  unfold meetD; rw [Int.max_eq_left h1, Int.min_eq_left h2, if_pos h3]

def comOf (a b c d : Int) : List Int := (mem a b).filter fun i => decide (i ∈ mem c d)
theorem com_iff {a b c d i : Int} : i ∈ comOf a b c d ↔ (a ≤ i ∧ i ≤ b) ∧ (c ≤ i ∧ i ≤ d) := by
  unfold comOf; rw [List.mem_filter, mem_iff, decide_eq_true_eq, mem_iff]
theorem com_hull {a b c d : Int} : HullIs (comOf a b c d) (meetD a b c d) := by
  unfold meetD
  by_cases h : max a c ≤ min b d
  · rw [if_pos h]
    refine .inr ⟨_, _, ⟨com_iff.mpr (by omega), fun x hx => ?_⟩, ⟨com_iff.mpr (by omega), fun x hx => ?_⟩, rfl⟩
    · have := com_iff.mp hx; omega
    · have := com_iff.mp hx; omega
  · rw [if_neg h]
    refine .inl ⟨?_, rfl⟩
    cases e : comOf a b c d with
    | nil => rfl
    | cons x xs =>
      have : x ∈ comOf a b c d := by rw [e]; exact List.mem_cons_self
      have := com_iff.mp this
      omega
theorem both_hull {a b c d : Int} (h1 : a ≤ b) (h2 : c ≤ d) : IsMin (mem a b ++ mem c d) (min a c) ∧ IsMax (mem a b ++ mem c d) (max b d) := by
  refine ⟨⟨?_, fun x hx => ?_⟩, ⟨?_, fun x hx => ?_⟩⟩
  · rw [List.mem_append, mem_iff, mem_iff]; omega
  · rw [List.mem_append, mem_iff, mem_iff] at hx; omega
  · rw [List.mem_append, mem_iff, mem_iff]; omega
  · rw [List.mem_append, mem_iff, mem_iff] at hx; omega
theorem meet_join {a b c d : Int} (h1 : a ≤ b) (h2 : c ≤ d) (h : comOf a b c d ≠ []) : meetD a b c d = tI (max a c) (min b d) ∧ max a c ≤ min b d := by
  rcases com_hull (a := a) (b := b) (c := c) (d := d) with ⟨e, _⟩ | ⟨m, M, h1, h2, e⟩
  · exact absurd e h
  · have hm : max a c ≤ min b d := by
      have := com_iff.mp h1.1
      omega
    exact ⟨by unfold meetD; rw [if_pos hm], hm⟩
theorem within_meet {a b c d : Int} (h1 : a ≤ b) : PyData.eqv (meetD a b c d) (tI a b) = (decide (c ≤ a) && decide (b ≤ d)) := by
  unfold meetD
  split
  · rw [eqvT, Bool.eq_iff_iff]; simp; omega
  · rw [show PyData.eqv .none (tI a b) = false from rfl, Eq.comm, Bool.and_eq_false_iff]; simp; omega

section
variable {w : World} {h₀ : Heap} {mg mb : Str → Option Value} {n : Nat} {sc : Scope} {ρ : Rho}

set_option maxHeartbeats 2000000 in
theorem lattice_spec (X : Ground h₀ mg mb) {a b c d e f : Int} (hx : Sp a b) (hy : Sp c d) (hz : Sp e f) : Fn pg w h₀ mg 2 28 [tI a b, tI c d, tI e f] (.bool true) := by
  have x1 := hx.lo; have x2 := hx.le; have x3 := hx.hi; have x4 := hx.wd
  have y1 := hy.lo; have y2 := hy.le; have y3 := hy.hi; have y4 := hy.wd
  have hmemx : Fn pg w h₀ mg 1 23 [tI a b] (.list ((mem a b).map .int)) := members_spec X (by omega) (by omega) (by omega) (by omega)
  have hmemy : Fn pg w h₀ mg 1 23 [tI c d] (.list ((mem c d).map .int)) := members_spec X (by omega) (by omega) (by omega) (by omega)
  have hlx : (mem a b).length ≤ 36 := by rw [mem_len]; omega
  have hly : (mem c d).length ≤ 36 := by rw [mem_len]; omega
  have hlc : (comOf a b c d).length ≤ 36 := Nat.le_trans (List.length_filter_le _ _) hlx
  refine Fn.intro (ps := ["x", "y", "z"]) X ?_ ?_ ?_ ?_ rfl ?_
  · refine Exs.cons (ρ' := [("x", tI a b), ("y", tI c d), ("z", tI e f)]) ?_ ?_
    · refine Ex.ifT (c := false) (Te.or (Ors.go ?_ (Ors.go ?_ (Ors.go ?_ Ors.nil)))) (by simp) (fun _ => Exs.nil)
      · refine Te.unsame (Ev.dcall 12 X (Evs.cons (Ev.name rfl) (Evs.cons (Ev.name rfl) Evs.nil)) (join_spec X)) ((Ev.dcall 12 X (Evs.cons (Ev.name rfl) (Evs.cons (Ev.name rfl) Evs.nil)) (join_spec X)).to ?_) (shT _ _)
        rw [Int.min_comm c a, Int.max_comm d b]
      · refine Te.unsame (Ev.dcall 14 X (Evs.cons (Ev.name rfl) (Evs.cons (Ev.name rfl) Evs.nil)) (meet_spec X)) ((Ev.dcall 14 X (Evs.cons (Ev.name rfl) (Evs.cons (Ev.name rfl) Evs.nil)) (meet_spec X)).to ?_) (meet_shaped _ _ _ _)
        rw [meet_comm]
      · refine Te.unsame (Ev.dcall 12 X (Evs.cons (Ev.name rfl) (Evs.cons (Ev.dcall 12 X (Evs.cons (Ev.name rfl) (Evs.cons (Ev.name rfl) Evs.nil)) (join_spec X)) Evs.nil)) (join_spec X))
          ((Ev.dcall 12 X (Evs.cons (Ev.dcall 12 X (Evs.cons (Ev.name rfl) (Evs.cons (Ev.name rfl) Evs.nil)) (join_spec X)) (Evs.cons (Ev.name rfl) Evs.nil)) (join_spec X)).to ?_) (shT _ _)
        rw [Int.min_assoc, Int.max_assoc]
    -- the common ones
    refine Exs.cons (ρ' := [("common", .list ((comOf a b c d).map .int)), ("x", tI a b), ("y", tI c d), ("z", tI e f)]) ?_ ?_
    · refine Ex.storeC [("y", tI c d)] (Ev.dcall 23 X (Evs.cons (Ev.name rfl) Evs.nil) hmemx) ?_ ?_ ⟨⟨rfl, rfl, rfl⟩, True.intro⟩
      · refine Cmp.filt1 (α := Int) (f := .int) (g := .int) (p := fun i => decide (i ∈ mem c d)) fun i hi => ?_
        refine ⟨_, Bnd.name rfl rfl, Tsts.one ?_, fun _ => Ev.name rfl⟩
        refine Te.cmp (Ev.name rfl) (Ev.dcall 23 X (Evs.cons (Ev.name rfl) Evs.nil) hmemy) ((CmpD.isIn (canI _) rfl (by simp [PyData.depth])).to (any_in _ _))
      · simp; omega
    refine Exs.cons (ρ' := [("common", .list ((comOf a b c d).map .int)), ("x", tI a b), ("y", tI c d), ("z", tI e f)]) ?_ ?_
    · refine Ex.ifT (c := false) (Te.or (Ors.go ?_ (Ors.go ?_ Ors.nil))) (by simp) (fun _ => Exs.nil)
      · exact Te.unsame (Ev.dcall 14 X (Evs.cons (Ev.name rfl) (Evs.cons (Ev.name rfl) Evs.nil)) (meet_spec X)) (Ev.dcall 24 X (Evs.cons (Ev.name rfl) Evs.nil) (hull_any X com_hull)) (meet_shaped _ _ _ _)
      · refine Te.unsame (Ev.dcall 12 X (Evs.cons (Ev.name rfl) (Evs.cons (Ev.name rfl) Evs.nil)) (join_spec X)) (Ev.dcall 24 X (Evs.cons ?_ Evs.nil) (hull_spec X (both_hull x2 y2).1 (both_hull x2 y2).2)) (shT _ _)
        refine (Ev.cat (Ev.dcall 23 X (Evs.cons (Ev.name rfl) Evs.nil) hmemx) (Ev.dcall 23 X (Evs.cons (Ev.name rfl) Evs.nil) hmemy) ?_).to ?_
        · simp; omega
        · rw [List.map_append]
    refine Exs.cons (ρ' := [("common", .list ((comOf a b c d).map .int)), ("x", tI a b), ("y", tI c d), ("z", tI e f)]) ?_ ?_
    · refine Ex.ifT (c := false) (Te.or (Ors.go ?_ (Ors.go ?_ (Ors.go ?_ Ors.nil)))) (by simp) (fun _ => Exs.nil)
      · refine Te.unsame ((Ev.dcall 12 X (Evs.cons (Ev.name rfl) (Evs.cons (Ev.name rfl) Evs.nil)) (join_spec X)).to ?_) (Ev.name rfl) (shT _ _)
        rw [Int.min_self, Int.max_self]
      · refine Te.unsame ((Ev.dcall 14 X (Evs.cons (Ev.name rfl) (Evs.cons (Ev.name rfl) Evs.nil)) (meet_spec X)).to ?_) (Ev.name rfl) (shT _ _)
        exact meet_in (Int.le_refl _) (Int.le_refl _) x2
      · refine Te.unsame ((Ev.dcall 14 X (Evs.cons (Ev.name rfl) (Evs.cons (Ev.dcall 12 X (Evs.cons (Ev.name rfl) (Evs.cons (Ev.name rfl) Evs.nil)) (join_spec X)) Evs.nil)) (meet_spec X)).to ?_) (Ev.name rfl) (shT _ _)
        exact meet_in (Int.min_le_left _ _) (Int.le_max_left _ _) x2
    refine Exs.cons (ρ' := [("common", .list ((comOf a b c d).map .int)), ("x", tI a b), ("y", tI c d), ("z", tI e f)]) ?_ ?_
    · refine Ex.ifT (c := false) (Te.and ?_) (by simp) (fun _ => Exs.nil)
      by_cases hc : comOf a b c d = []
      · rw [hc]
        refine Ands.no ?_
        exact (Te.cmp (Ev.name rfl) (Ev.list Evs.nil) (CmpD.ne (shLI []) (shLI []))).to (by simp [PyData.eqv, PyData.eqvAll])
      · obtain ⟨e1, e2⟩ := meet_join x2 y2 hc
        refine Ands.go ?_ (Ands.no ?_)
        · refine (Te.cmp (Ev.name rfl) (Ev.list Evs.nil) (CmpD.ne (shLI _) (shLI []))).to ?_
          revert hc
          generalize comOf a b c d = L
          intro hc
          cases L with
          | nil => exact absurd rfl hc
          | cons y ys => simp [PyData.eqv, PyData.eqvAll]
        · refine Te.unsame ((Ev.dcall 12 X (Evs.cons (Ev.name rfl) (Evs.cons ((Ev.dcall 14 X (Evs.cons (Ev.name rfl) (Evs.cons (Ev.name rfl) Evs.nil)) (meet_spec X)).to e1) Evs.nil)) (join_spec X)).to ?_) (Ev.name rfl) (shT _ _)
          rw [Int.min_eq_left (by omega : a ≤ max a c), Int.max_eq_left (by omega : min b d ≤ b)]
    refine Exs.cons (ρ' := [("common", .list ((comOf a b c d).map .int)), ("x", tI a b), ("y", tI c d), ("z", tI e f)]) ?_ ?_
    · refine Ex.ifT (c := false) (Te.or (Ors.go ?_ (Ors.go ?_ Ors.nil))) (by simp) (fun _ => Exs.nil)
      · refine Te.unsame (d := .bool (decide (c ≤ a) && decide (b ≤ d))) (Ev.dcall 11 X (Evs.cons (Ev.name rfl) (Evs.cons (Ev.name rfl) Evs.nil)) (within_spec X)) ?_ (shB _)
        refine (Ev.cmp (Ev.dcall 12 X (Evs.cons (Ev.name rfl) (Evs.cons (Ev.name rfl) Evs.nil)) (join_spec X)) (Ev.name rfl) (CmpD.eqT _ _ _ _)).to ?_
        congr 1
        rw [Bool.eq_iff_iff]; simp; omega
      · refine Te.unsame (d := .bool (decide (c ≤ a) && decide (b ≤ d))) (Ev.dcall 11 X (Evs.cons (Ev.name rfl) (Evs.cons (Ev.name rfl) Evs.nil)) (within_spec X)) ?_ (shB _)
        exact Ev.cmp (Ev.dcall 14 X (Evs.cons (Ev.name rfl) (Evs.cons (Ev.name rfl) Evs.nil)) (meet_spec X)) (Ev.name rfl) ((CmpD.eq (meet_shaped _ _ _ _) (shT _ _)).to (within_meet x2))
    refine Exs.ret ?_
    refine Ex.ret ?_
    refine Ev.and2 (b := true) ((Ev.dcall 11 X (Evs.cons (Ev.name rfl) (Evs.cons (Ev.dcall 12 X (Evs.cons (Ev.name rfl) (Evs.cons (Ev.name rfl) Evs.nil)) (join_spec X)) Evs.nil)) (within_spec X)).to ?_)
      (fun _ => (Ev.dcall 11 X (Evs.cons (Ev.name rfl) (Evs.cons (Ev.dcall 12 X (Evs.cons (Ev.name rfl) (Evs.cons (Ev.name rfl) Evs.nil)) (join_spec X)) Evs.nil)) (within_spec X)).to ?_) (by simp)
    · rw [decide_eq_true (by omega), decide_eq_true (by omega)]; rfl
    · rw [decide_eq_true (by omega), decide_eq_true (by omega)]; rfl
  · intro pm cd doc vs hv
    match vs, hv with
    | [_, _, _], _ => rfl
  · decide +kernel
  · decide +kernel
  · decide +kernel
end
end Mine

namespace Mine

/-! # slices, plain -/
theorem sliceD_eq (ds : List PyData) (lo hi : Option Int) :
    sliceD ds lo hi = (ds.drop (lo.elim 0 (clipAt ds.length))).take (hi.elim ds.length (clipAt ds.length) - lo.elim 0 (clipAt ds.length)) := by
  unfold sliceD
  rw [sliceBounds_plain]
  have := pick_run ds.toArray (lo.elim 0 (clipAt ds.length)) (hi.elim ds.length (clipAt ds.length) - lo.elim 0 (clipAt ds.length))
  simpa [sliceRange_one] using this
theorem sliceD_from (ds : List PyData) (a : Nat) : sliceD ds (some (a : Int)) none = ds.drop a := by
  rw [sliceD_eq]
  simp only [Option.elim, clipAt_nat]
  rcases Nat.le_total a ds.length with h | h
  · rw [Nat.min_eq_left h, List.take_of_length_le (by simp)]
  · rw [Nat.min_eq_right h, List.drop_of_length_le (by simp), List.drop_of_length_le (by simpa using h)]; simp
theorem sliceD_upto (ds : List PyData) (b : Nat) : sliceD ds none (some (b : Int)) = ds.take b := by
  rw [sliceD_eq]
  simp only [Option.elim, clipAt_nat, List.drop_zero, Nat.sub_zero]
  rcases Nat.le_total b ds.length with h | h
  · rw [Nat.min_eq_left h]
  · rw [Nat.min_eq_right h, List.take_of_length_le (by simp), List.take_of_length_le (by simpa using h)]
theorem sliceD_run (ds : List PyData) (a b : Nat) (h : a ≤ b) (hb : b ≤ ds.length) : sliceD ds (some (a : Int)) (some (b : Int)) = (ds.drop a).take (b - a) := by
  rw [sliceD_eq]
  simp only [Option.elim, clipAt_nat]
  rw [Nat.min_eq_left hb, Nat.min_eq_left (by omega)]

/-! # a list that grows -/

def Kl (env : Env) (L : Addr) (h h' : Heap) : Prop := ∀ a o, ¬ Own env a → a ≠ L → h.get? a = some o → h'.get? a = some o
theorem Kl.refl (env : Env) (L : Addr) (h : Heap) : Kl env L h h := fun _ _ _ _ e => e
theorem Kl.trans {env : Env} {L : Addr} {a b c : Heap} (x : Kl env L a b) (y : Kl env L b c) : Kl env L a c := fun _ _ n m e => y _ _ n m (x _ _ n m e)
theorem Kp.kl {env : Env} {L : Addr} {h h' : Heap} (k : Kp h h') : Kl env L h h' := fun _ _ _ _ e => k _ _ e
theorem Kb.kl {env : Env} {L : Addr} {h h' : Heap} (k : Kb env h h') : Kl env L h h' := fun _ _ n _ e => k _ _ n e

def IV (vs : List Value) (ns : List Int) : Prop := ∀ (H : Addr → Prop) (h : Heap), RdAll H h vs (ns.map .int)
theorem IV.append {vs : List Value} {ns : List Int} (x : IV vs ns) (i : Int) (t : Tok) : IV (vs ++ [.int i t]) (ns ++ [i]) := fun H h => by
  rw [List.map_append]
  exact (x H h).append (.cons (.int i t) .nil)

structure Mt (h₀ : Heap) (H : Addr → Prop) (env : Env) (L : Addr) (x : Str) (ρ : Rho) (ns : List Int) (h : Heap) : Prop where
  ss : SS h₀ (fun a => H a ∨ a = L) env ρ h
  own : ∀ a, Own env a → H a
  nL : ¬ H L
  base : h₀.get? L = none
  kx : env.kindOf x = some .local
  here : ∃ m, h.Ns env.locals m ∧ m x = some (.ref L)
  lst : ∃ vs : List Value, PlainL h L vs.toArray ∧ IV vs ns

section
variable {prog : Program} {w : World} {h₀ : Heap} {mg mb : Str → Option Value} {n : Nat} {sc : Scope} {ρ : Rho}

theorem Mt.keep {H : Addr → Prop} {env : Env} {L : Addr} {x : Str} {ns : List Int} {h h' : Heap} (M : Mt h₀ H env L x ρ ns h) (k : Kp h h') : Mt h₀ H env L x ρ ns h' :=
  ⟨M.ss.keep k, M.own, M.nL, M.base, M.kx, let ⟨m, hn, e⟩ := M.here; ⟨m, hn.keeps k, e⟩, let ⟨vs, p, i⟩ := M.lst; ⟨vs, p.keeps k, i⟩⟩
theorem Mt.less {H : Addr → Prop} {env : Env} {L : Addr} {x : Str} {ns : List Int} {h : Heap} {ρ' : Rho} (M : Mt h₀ H env L x ρ ns h) (s : SubR ρ ρ') : Mt h₀ H env L x ρ' ns h :=
  ⟨M.ss.less s, M.own, M.nL, M.base, M.kx, M.here, M.lst⟩
theorem Mt.notOwn {H : Addr → Prop} {env : Env} {L : Addr} {x : Str} {ns : List Int} {h : Heap} (M : Mt h₀ H env L x ρ ns h) : ¬ Own env L := fun o => M.nL (M.own _ o)

/-- the list read as a datum -/
theorem Mt.full {H : Addr → Prop} {env : Env} {L : Addr} {x : Str} {ns : List Int} {h : Heap} (M : Mt h₀ H env L x ρ ns h) : SS h₀ H env ((x, .list (ns.map .int)) :: ρ) h := by
  have S := M.ss.unhide (H := H) (fun a z => .inl z) M.own
  refine ⟨⟨S.base, S.live, ?_⟩, S.own, S.fro, S.new⟩
  obtain ⟨m, hn, hv⟩ := S.loc
  obtain ⟨m', hn', e'⟩ := M.here
  refine ⟨m, hn, fun y d e => ?_⟩
  by_cases hy : y = x
  · subst hy
    rw [lookup_cons_eq] at e
    cases e
    obtain ⟨vs, p, i⟩ := M.lst
    exact .inl ⟨M.kx, .ref L, (hn.agree hn' y).trans e', Rd.ofList M.nL p.isList (i H h)⟩
  · rw [lookup_cons_ne hy] at e
    exact hv y d e

/-- one place that is hidden has moved -/
theorem Mt.step {H HT : Addr → Prop} {env : Env} {L : Addr} {x : Str} {ns : List Int} {h h' : Heap} {I : Addr} (M : Mt h₀ H env L x ρ ns h) (hx : Heap.ExtBut I h h') (hI : H I) (hO : ¬ Own env I) (hb : h₀.get? I = Option.none)
    (hsub : ∀ a, HT a → H a) (hown : ∀ a, Own env a → HT a) (hl : ∀ a, HT a → ∃ o, h'.get? a = some o) : Mt h₀ HT env L x ρ ns h' := by
  have hLI : L ≠ I := fun e => M.nL (e ▸ hI)
  refine ⟨M.ss.step (HT := fun a => HT a ∨ a = L) hx (.inl hI) hO hb (fun a z => z.imp (hsub a) id) (fun a o => .inl (hown a o)) ?_, hown, fun z => M.nL (hsub _ z), M.base, M.kx, ?_, ?_⟩
  · rintro a (ha | rfl)
    · exact hl a ha
    · obtain ⟨vs, ⟨o, _, e, _⟩, _⟩ := M.lst
      exact ⟨o, hx _ o hLI e⟩
  · obtain ⟨m, hn, e⟩ := M.here
    exact ⟨m, hn.extBut hx (fun z => hO (.inl z.symm)), e⟩
  · obtain ⟨vs, p, i⟩ := M.lst
    exact ⟨vs, p.extBut hx hLI, i⟩

/-- a name other than the list's is bound -/
theorem bindM {H : Addr → Prop} {L : Addr} {x y : Str} {ns : List Int} {v : Value} {d : PyData} {A : Around} {env : Env} {s : Shared} {Q : Unit → Shared → Prop} {E : Value → Shared → Prop} (G : EnvG sc env) (M : Mt h₀ H env L x ρ ns s.heap)
    (r : Rd (fun a => H a ∨ a = L) s.heap v d) (hy : sc.names.lookup y = some .local) (hk : sc.kind = .function) (hyx : y ≠ x)
    (h : ∀ h' tk, Kb env s.heap h' → Mt h₀ H env L x ((y, d) :: ρ) ns h' → Q () { s with heap := h', toks := tk }) : wpAny (model prog w) A (storeName env y v) Q E s := by
  have hk' : env.scope.kind = .function := by rw [G.scope]; exact hk
  have hl : env.kindOf y = some .local := by rw [Env.kindOf, G.scope]; exact hy
  have S := M.ss
  obtain ⟨m, hn, hv⟩ := S.loc
  have oL : Own env env.locals := .inl rfl
  have hLl : L ≠ env.locals := fun e => M.notOwn (e ▸ oL)
  refine wpAny_storeName_local hl hn (fun h' hn' hs => h h' _ (fun a o ha e => (hs.2 a (fun e' => ha (.inl e'))).trans e) ?_) (by rw [hk']; rfl)
  have keepRd : ∀ {u : Value} {e : PyData}, Rd (fun a => H a ∨ a = L) s.heap u e → Rd (fun a => H a ∨ a = L) h' u e := fun q =>
    q.imp fun a o ha e => ⟨ha, (hs.2 a (fun e' => ha (e' ▸ S.own _ oL))).trans e⟩
  have live : ∀ a, (H a ∨ a = L) → ∃ o, h'.get? a = some o := fun a ha => by
    by_cases hab : a = env.locals
    · subst hab; obtain ⟨o, _, _, e, _⟩ := hn'; exact ⟨o, e⟩
    · obtain ⟨o, e⟩ := S.live a ha; exact ⟨o, (hs.2 a hab).trans e⟩
  refine ⟨⟨⟨fun a o e => (hs.2 a (fun e' => by rw [e', S.new _ oL] at e; cases e)).trans (S.base a o e), live, _, hn', fun z e he => ?_⟩, S.own,
      ⟨S.fro.apart, fun n c hm => ⟨let ⟨u, hu⟩ := (S.fro.cell n c hm).1; ⟨u, hu.sameBut hs (S.fro.cell n c hm).2⟩, (S.fro.cell n c hm).2⟩, S.fro.all⟩, S.new⟩, M.own, M.nL, M.base, M.kx, ?_, ?_⟩
  · by_cases hz : z = y
    · subst hz
      rw [lookup_cons_eq] at he
      cases he
      exact .inl ⟨hl, v, by simp, keepRd r⟩
    · rw [lookup_cons_ne hz] at he
      rcases hv z e he with ⟨kl, u, eu, ru⟩ | ⟨kc, c, u, ec, ic, ru⟩
      · exact .inl ⟨kl, u, by simpa [hz] using eu, keepRd ru⟩
      · exact .inr ⟨kc, c, u, ec, ic.sameBut hs (S.fro.cell z c (mem_of_lookup ec)).2, keepRd ru⟩
  · obtain ⟨m', hm', e'⟩ := M.here
    exact ⟨_, hn', by simpa [Ne.symm hyx] using (hn.agree hm' x).trans e'⟩
  · obtain ⟨vs, ⟨o, k, e, z⟩, i⟩ := M.lst
    exact ⟨vs, ⟨o, k, (hs.2 L hLl).trans e, z⟩, i⟩

def Mx (prog : Program) (w : World) (h₀ : Heap) (n : Nat) (sc : Scope) (x : Str) (ρ : Rho) (ns : List Int) (st : Stmt) (ρ' : Rho) (ns' : List Int) : Prop :=
  ∀ (A : Around) (env : Env) (s : Shared) (H : Addr → Prop) (L : Addr) (Q : Flow → Shared → Prop) (E : Value → Shared → Prop),
    Rm n A → EnvG sc env → Mt h₀ H env L x ρ ns s.heap →
    (∀ h' tk, Kl env L s.heap h' → Mt h₀ H env L x ρ' ns' h' → Q .next { s with heap := h', toks := tk }) →
    wpAny (model prog w) A (exec st env) Q E s
def Mxs (prog : Program) (w : World) (h₀ : Heap) (n : Nat) (sc : Scope) (x : Str) (ρ : Rho) (ns : List Int) (sts : List Stmt) (ρ' : Rho) (ns' : List Int) : Prop :=
  ∀ (A : Around) (env : Env) (s : Shared) (H : Addr → Prop) (L : Addr) (Q : Flow → Shared → Prop) (E : Value → Shared → Prop),
    Rm n A → EnvG sc env → Mt h₀ H env L x ρ ns s.heap →
    (∀ h' tk, Kl env L s.heap h' → Mt h₀ H env L x ρ' ns' h' → Q .next { s with heap := h', toks := tk }) →
    wpAny (model prog w) A (execs sts env) Q E s

variable {x : Str} {ρ' ρ'' : Rho} {ns ns' ns'' : List Int}
theorem Mxs.nil : Mxs prog w h₀ n sc x ρ ns [] ρ ns := fun A env s H L Q E R G M hQ => wpAny_execs_nil (hQ s.heap s.toks (Kl.refl _ _ _) M)
theorem Mxs.cons {st : Stmt} {rest : List Stmt} (h : Mx prog w h₀ n sc x ρ ns st ρ' ns') (hr : Mxs prog w h₀ n sc x ρ' ns' rest ρ'' ns'') : Mxs prog w h₀ n sc x ρ ns (st :: rest) ρ'' ns'' :=
  fun A env s H L Q E R G M hQ => wpAny_execs_cons (h A env s H L _ E R G M fun h' tk k M' => hr A env _ H L _ E R G M' fun h'' tk' k' M'' => hQ h'' tk' (k.trans k') M'')
theorem Mxs.less {sts : List Stmt} (h : Mxs prog w h₀ n sc x ρ ns sts ρ' ns') (s : SubR ρ' ρ'') : Mxs prog w h₀ n sc x ρ ns sts ρ'' ns' :=
  fun A env st H L Q E R G M hQ => h A env st H L Q E R G M fun h' tk k M' => hQ h' tk k (M'.less s)

theorem Mx.store {y : Str} {p pos} {e : Expr} {i : Int} (h : Ev prog w h₀ n sc ((x, .list (ns.map .int)) :: ρ) e (.int i)) (hy : sc.names.lookup y = some .local := by rfl)
    (hk : sc.kind = .function := by rfl) (hyx : y ≠ x := by decide) (hs : ∀ env, swapsWith e (some (.Name y p)) pos.line env = pure false := by intro _; rfl) :
    Mx prog w h₀ n sc x ρ ns (.Assign [.Name y p] e pos) ((y, .int i) :: ρ) ns :=
  fun A env s H L Q E R G M hQ => wpAny_Assign_Name (h A env s H _ E R G M.full.toSC fun v h' tk k r => by
    obtain ⟨t, rfl⟩ := r.isInt
    exact bindM (s := { s with heap := h', toks := tk }) G (M.keep k) (.int i t) hy hk hyx fun h'' tk' k' M' => hQ h'' tk' (k.kl.trans k'.kl) M') (hs env)

theorem Mx.append {p ap cp ep} {e : Expr} {i : Int} (h : Ev prog w h₀ n sc ((x, .list (ns.map .int)) :: ρ) e (.int i)) (hsz : ns.length ≤ 2 ^ 20) (hk : sc.kind = .function := by rfl) (hd : (x == ("__debug__" : Str)) = false := by decide)
    (hs : ∀ env, swapsWith (.Call (.Attribute (.Name x p) "append" ap) [e] [] cp) Option.none ep.line env = pure false := by intro _; rfl)
    (hbase : ∀ env, attributeBase (.Name x p) "append" env (eval (.Name x p) env) = eval (.Name x p) env := by intro _; rfl)
    (hfew : ∀ env, ((backTo cp (starEach [e] env)).all (fun x => !x.1) && (backToKw cp (keywordEach [] env)).all (fun x => x.1.isSome)
      && decide (([e] : List Expr).length + ([] : List Keyword).length + (if ([] : List Keyword).isEmpty then 0 else 1) < 30)) = true := by intro _; rfl)
    (hline : (ap.endLine == cp.line) = true := by rfl)
    (htrees : ∀ env, backTo cp (starEach [e] env) = [(false, eval e env)] := by intro _; rfl) :
    Mx prog w h₀ n sc x ρ ns (.Expr (.Call (.Attribute (.Name x p) "append" ap) [e] [] cp) ep) ρ (ns ++ [i]) := fun A env s H L Q E R G M hQ => by
  have hk' : env.scope.kind = .function := by rw [G.scope]; exact hk
  refine wpAny_Expr_any ?_ (by unfold interactive; rw [hk']; rfl) (hs env)
  refine wpAny_Call_append (hbase env) (hfew env) hline (htrees env) ?_
  obtain ⟨m, hn, ex⟩ := M.here
  refine wpAny_Name (wpAny_loadName_local hk' M.kx hn ex ?_) hd
  obtain ⟨vs, pl, iv⟩ := id M.lst
  refine ⟨L, vs.toArray, rfl, pl, h A env s H _ E R G M.full.toSC fun v h' tk k r => ?_⟩
  obtain ⟨t, rfl⟩ := r.isInt
  have M' := M.keep k
  refine list_append_plainL (s := { s with heap := h', toks := tk }) (pl.keeps k) (fun h'' pl'' hs'' => ?_) ?_
  · have hx := hs''.extBut
    refine hQ h'' tk (fun a o ho hL e => hx a o hL (k _ _ e)) ⟨?_, M.own, M.nL, M.base, M.kx, ?_, ?_⟩
    · refine M'.ss.step (HT := fun a => H a ∨ a = L) hx (.inr rfl) M.notOwn M.base (fun _ z => z) (fun a o => .inl (M.own a o)) fun a ha => ?_
      by_cases hab : a = L
      · subst hab; obtain ⟨o, _, e, _⟩ := pl''; exact ⟨o, e⟩
      · obtain ⟨o, e⟩ := M'.ss.live a ha; exact ⟨o, hx a o hab e⟩
    · obtain ⟨m', hm', e'⟩ := M'.here
      exact ⟨m', hm'.extBut hx (fun z => M.notOwn (.inl z.symm)), e'⟩
    · exact ⟨vs ++ [.int i t], by simpa using pl'', iv.append i t⟩
  · have := (iv H s.heap).length
    rw [List.length_map] at this
    rw [List.size_toArray, this, sizeLine_eq]; omega

theorem Mx.while {test : Expr} {body : List Stmt} {pos} {N : Nat} {r : Nat → Rho} {g : Nat → List Int}
    (ht : ∀ k, k ≤ N → Te prog w h₀ n sc ((x, .list ((g k).map .int)) :: r k) test (decide (k < N))) (hb : ∀ k, k < N → Mxs prog w h₀ n sc x (r k) (g k) body (r (k + 1)) (g (k + 1))) :
    Mx prog w h₀ n sc x (r 0) (g 0) (.While test body [] pos) (r N) (g N) := fun A env s H L Q E R G M hQ => by
  refine wpAny_While ?_
  refine codeAny_whileLoop (fun m s' => ∃ (h' : Heap) (tk : Nat) (k : Nat), s' = { s with heap := h', toks := tk } ∧ m = N - k ∧ k ≤ N ∧ Mt h₀ H env L x (r k) (g k) h' ∧ Kl env L s.heap h') ?_ N
    ⟨s.heap, s.toks, 0, rfl, rfl, Nat.zero_le _, M, Kl.refl _ _ _⟩
  rintro m s' ⟨h', tk, k, rfl, rfl, hk, Mk, kk⟩
  refine ht k hk A env _ H _ _ R G Mk.full.toSC fun h'' tk' k' => ?_
  by_cases hlt : k < N
  · rw [if_pos (decide_eq_true hlt)]
    refine hb k hlt A env _ H L _ _ R G (Mk.keep k') fun h3 tk3 k3 M3 => ?_
    exact ⟨N - (k + 1), by omega, h3, tk3, k + 1, rfl, rfl, hlt, M3, (kk.trans k'.kl).trans k3⟩
  · have hkN : k = N := by omega
    subst hkN
    rw [if_neg (by simp)]
    exact wpAny_execs_nil (hQ h'' tk' (kk.trans k'.kl) (Mk.keep k'))

theorem Mx.forL {y : Str} {p pos} {iter : Expr} {body : List Stmt} {ds : List PyData} {g : Nat → List Int} (h : Ev prog w h₀ n sc ρ iter (.list ds)) (hb : ∀ k (hk : k < ds.length), Mxs prog w h₀ n sc x ((y, ds[k]) :: ρ) (g k) body ρ (g (k + 1)))
    (hy : sc.names.lookup y = some .local := by rfl) (hk : sc.kind = .function := by rfl) (hyx : y ≠ x := by decide)
    (hs : ∀ env x, foldedSetIterable iter env x = pure x := by intro _ _; rfl) :
    Mx prog w h₀ n sc x ρ (g 0) (.For (.Name y p) iter body [] pos) ρ (g ds.length) := fun A env s H L Q E R G M hQ => by
  refine wpAny_For (h A env s _ _ E R G M.ss.toSC fun v h₁ t₁ k₁ r₁ => ?_) (hs env)
  obtain ⟨l, vs, rfl, hnl, hl, q⟩ := r₁.isList
  refine wpAny_pyIter_list (s := { s with heap := h₁, toks := t₁ }) hl ?_
  generalize hI : h₁.objs.size = I
  have hIn : h₁.get? I = Option.none := hI ▸ get?_size h₁
  have M1 := M.keep k₁
  have hHI' : ¬ (H I ∨ I = L) := M1.ss.toSC.new hIn
  have hHI : ¬ H I := fun z => hHI' (.inl z)
  have hIL : I ≠ L := fun z => hHI' (.inr z)
  have hlI : l ≠ I := fun e => by obtain ⟨o', e', _⟩ := hl; rw [e, hIn] at e'; cases e'
  have hlL : l ≠ L := fun e => hnl (.inr e)
  have hOI : ¬ Own env I := fun z => hHI (M.own _ z)
  have hOl : ¬ Own env l := fun z => hnl (.inl (M.own _ z))
  show codeAny (model prog w) A _ _ { s with heap := h₁.push { cls := .type "list_iterator", data := .fields #[.ref l, .int 0 0] }, toks := t₁ }
  generalize hh₂ : h₁.push { cls := .type "list_iterator", data := .fields #[.ref l, .int 0 0] } = h₂
  have k₂ : Kp h₁ h₂ := hh₂ ▸ Kp.push _ _
  have hit₂ : h₂.IsListIter I l 0 := ⟨_, by rw [← hh₂, ← hI]; exact Heap.get?_push_size _ rfl, rfl, rfl⟩
  have hr : ∀ v d, Rd (fun a => H a ∨ a = L) h₁ v d → Rd (fun a => (H a ∨ a = I) ∨ a = L) h₂ v d := fun v d r => r.imp fun a o ha e =>
    ⟨fun z => z.elim (fun z => z.elim (fun z => ha (.inl z)) (fun e' => by have e2 := e; rw [e', hIn] at e2; cases e2)) (fun z => ha (.inr z)), k₂ _ _ e⟩
  have M2 : Mt h₀ (fun a => H a ∨ a = I) env L x ρ (g 0) h₂ := by
    have S1 := M1.ss
    refine ⟨⟨⟨S1.base.trans k₂, ?_, ?_⟩, fun a o => .inl (.inl (M.own a o)), S1.fro.keep k₂, S1.new⟩, fun a o => .inl (M.own a o), fun z => z.elim M.nL (fun e => hIL e.symm), M.base, M.kx, ?_, ?_⟩
    · rintro a ((ha | rfl) | rfl)
      · obtain ⟨o, e⟩ := S1.live a (.inl ha); exact ⟨o, k₂ _ _ e⟩
      · obtain ⟨o, e, _⟩ := hit₂; exact ⟨o, e⟩
      · obtain ⟨o, e⟩ := S1.live a (.inr rfl); exact ⟨o, k₂ _ _ e⟩
    · obtain ⟨m, hn, hv⟩ := S1.loc
      refine ⟨m, hn.keeps k₂, fun x d e => ?_⟩
      rcases hv x d e with ⟨k, v, a, r⟩ | ⟨k, c, v, a, b, r⟩
      · exact .inl ⟨k, v, a, hr _ _ r⟩
      · exact .inr ⟨k, c, v, a, b.keeps k₂, hr _ _ r⟩
    · obtain ⟨m, hn, e⟩ := M1.here; exact ⟨m, hn.keeps k₂, e⟩
    · obtain ⟨us, pl, iv⟩ := M1.lst; exact ⟨us, pl.keeps k₂, iv⟩
  have q2 : RdAll (fun a => (H a ∨ a = I) ∨ a = L) h₂ vs ds := q.imp fun a o ha e =>
    ⟨fun z => z.elim (fun z => z.elim (fun z => ha (.inl z)) (fun e' => by have e2 := e; rw [e', hIn] at e2; cases e2)) (fun z => ha (.inr z)), k₂ _ _ e⟩
  have hl2 : h₂.IsList l vs.toArray := let ⟨o, ho, z⟩ := hl; ⟨o, k₂ _ _ ho, z⟩
  have hbI : h₀.get? I = Option.none := by
    cases e : h₀.get? I with
    | none => rfl
    | some o => have := k₁ _ _ (M.ss.base _ _ e); rw [hIn] at this; cases this
  refine codeAny_forLoop (fun k s' => ∃ (h' : Heap) (tk : Nat) (j : Nat), s' = { s with heap := h', toks := tk } ∧ k = ds.length + 1 - j ∧ j ≤ ds.length ∧ Mt h₀ (fun a => H a ∨ a = I) env L x ρ (g j) h' ∧ h'.IsListIter I l j ∧
      h'.IsList l vs.toArray ∧ RdAll (fun a => (H a ∨ a = I) ∨ a = L) h' vs ds ∧ Kl env L h₁ h') ?_ (ds.length + 1)
    ⟨h₂, t₁, 0, rfl, by omega, Nat.zero_le _, M2, hit₂, hl2, q2, k₂.kl⟩
  rintro k s' ⟨h', tk, j, rfl, rfl, hj, Mj, hit, hlj, qj, kj⟩
  by_cases hlt : j < ds.length
  · obtain ⟨v, hv, rv⟩ := qj.get (List.getElem?_eq_getElem hlt)
    refine wpAny_pyNext_list_item (s := { s with heap := h', toks := tk }) hit hlj (by simpa using hv) fun h'' hit'' hs'' => ?_
    have hx'' := hs''.extBut
    have M'' : Mt h₀ (fun a => H a ∨ a = I) env L x ρ (g j) h'' := Mj.step (HT := fun a => H a ∨ a = I) hx'' (.inr rfl) hOI hbI (fun _ z => z) Mj.own fun a ha => by
      by_cases hab : a = I
      · subst hab; obtain ⟨o, e, _⟩ := hit''; exact ⟨o, e⟩
      · obtain ⟨o, e⟩ := Mj.ss.live a (.inl ha); exact ⟨o, hx'' a o hab e⟩
    have qj'' : RdAll (fun a => (H a ∨ a = I) ∨ a = L) h'' vs ds := qj.imp fun a o ha e => ⟨ha, hx'' a o (fun z => ha (.inl (.inr z))) e⟩
    have rv'' : Rd (fun a => (H a ∨ a = I) ∨ a = L) h'' v ds[j] := rv.imp fun a o ha e => ⟨ha, hx'' a o (fun z => ha (.inl (.inr z))) e⟩
    have hl'' := hlj.extBut hx'' hlI
    have kj'' : Kl env L h₁ h'' := fun a o na nl e => hx'' a o (fun z => by have e2 := e; rw [z, hIn] at e2; cases e2) (kj a o na nl e)
    refine wpAny_assign_Name (bindM (s := { s with heap := h'', toks := tk }) G M'' rv'' hy hk hyx fun h3 tk3 k3 M3 => ?_)
    have hit3 : h3.IsListIter I l (j + 1) := let ⟨o, e, z⟩ := hit''; ⟨o, k3 _ _ hOI e, z⟩
    have hl3 : h3.IsList l vs.toArray := let ⟨o, e, z⟩ := hl''; ⟨o, k3 _ _ hOl e, z⟩
    have q3 : RdAll (fun a => (H a ∨ a = I) ∨ a = L) h3 vs ds := qj''.imp fun a o ha e => ⟨ha, k3 a o (fun z => ha (.inl (.inl (M.own _ z)))) e⟩
    refine hb j hlt A env _ (fun a => H a ∨ a = I) L _ _ R G M3 fun h4 tk4 k4 M4 => ?_
    exact ⟨ds.length + 1 - (j + 1), by omega, h4, tk4, j + 1, rfl, rfl, hlt, M4, let ⟨o, e, z⟩ := hit3; ⟨o, k4 _ _ hOI hIL e, z⟩, let ⟨o, e, z⟩ := hl3; ⟨o, k4 _ _ hOl hlL e, z⟩,
        q3.imp fun a o ha e => ⟨ha, k4 a o (fun z => ha (.inl (.inl (M.own _ z)))) (fun z => ha (.inr z)) e⟩, (kj''.trans k3.kl).trans k4⟩
  · have hje : j = ds.length := by omega
    subst hje
    refine wpAny_pyNext_list_end (s := { s with heap := h', toks := tk }) R.hh hit hlj (by simp [q.length]) fun h'' hx'' => ?_
    refine wpAny_execs_nil ?_
    refine hQ h'' tk (fun a o na nl e => ?_) ?_
    · have e1 := k₁ _ _ e
      exact hx'' a o (fun z => by rw [z, hIn] at e1; cases e1) (kj a o na nl e1)
    · refine Mj.step (HT := H) hx'' (.inr rfl) hOI hbI (fun _ z => .inl z) M.own fun a ha => ?_
      obtain ⟨o, e⟩ := Mj.ss.live a (.inl (.inl ha))
      exact ⟨o, hx'' a o (fun z => hHI (z ▸ ha)) e⟩

def Mr (prog : Program) (w : World) (h₀ : Heap) (n : Nat) (sc : Scope) (x : Str) (ρ : Rho) (ns : List Int) (sts : List Stmt) (d : PyData) : Prop :=
  ∀ (A : Around) (env : Env) (s : Shared) (H : Addr → Prop) (L : Addr) (Q : Flow → Shared → Prop) (E : Value → Shared → Prop),
    Rm n A → EnvG sc env → Mt h₀ H env L x ρ ns s.heap →
    (∀ v h' tk, Kl env L s.heap h' → Rd H h' v d → Q (.ret v) { s with heap := h', toks := tk }) →
    wpAny (model prog w) A (execs sts env) Q E s
theorem Mr.cons {st : Stmt} {rest : List Stmt} {d : PyData} (h : Mx prog w h₀ n sc x ρ ns st ρ' ns') (hr : Mr prog w h₀ n sc x ρ' ns' rest d) : Mr prog w h₀ n sc x ρ ns (st :: rest) d :=
  fun A env s H L Q E R G M hQ => wpAny_execs_cons (h A env s H L _ E R G M fun h' tk k M' => hr A env _ H L _ E R G M' fun v h'' tk' k' M'' => hQ v h'' tk' (k.trans k') M'')
theorem Mr.ret {e : Expr} {pos} {rest : List Stmt} {d : PyData} (h : Ev prog w h₀ n sc ((x, .list (ns.map .int)) :: ρ) e d) : Mr prog w h₀ n sc x ρ ns (.Return (some e) pos :: rest) d :=
  fun A env s H L Q E R G M hQ => wpAny_execs_cons (wpAny_Return_some (h A env s H _ E R G M.full.toSC fun v h' tk k r => hQ v h' tk k.kl r))

/-- a body that opens with an empty list, lets it grow, and gives it back -/
theorem Exs.grow {p pos lp} {rest : List Stmt} {d : PyData} (hm : Mr prog w h₀ n sc x ρ [] rest d)
    (hx : sc.names.lookup x = some .local := by rfl) (hk : sc.kind = .function := by rfl) (hd : (x == ("__debug__" : Str)) = false := by decide)
    (hs : ∀ env, swapsWith (.List [] lp) (some (.Name x p)) pos.line env = pure false := by intro _; rfl) (hnx : ρ.lookup x = Option.none := by rfl) :
    Exs prog w h₀ n sc ρ (.Assign [.Name x p] (.List [] lp) pos :: rest) (.ret d) := fun A env s H Q E R G S hQ => by
  have hk' : env.scope.kind = .function := by rw [G.scope]; exact hk
  have hl : env.kindOf x = some .local := by rw [Env.kindOf, G.scope]; exact hx
  refine wpAny_execs_cons (wpAny_Assign_Name ?_ (hs env))
  refine wpAny_List (Calls.spliced_nil ⟨Nat.zero_le _, ?_⟩)
  generalize hL : s.heap.objs.size = L
  have hLn : s.heap.get? L = Option.none := hL ▸ get?_size _
  have k1 : Kp s.heap (s.heap.push { cls := .type "list", data := .seq ([] : List Value).toArray }) := Kp.push _ _
  have pl1 : PlainL (s.heap.push { cls := .type "list", data := .seq ([] : List Value).toArray }) L ([] : List Value).toArray := ⟨_, _, by rw [← hL]; exact Heap.get?_push_size _ rfl, rfl, rfl, rfl⟩
  generalize s.heap.push { cls := .type "list", data := .seq ([] : List Value).toArray } = h1 at k1 pl1 ⊢
  have nL : ¬ H L := S.toSC.new hLn
  have S1 := S.keep k1
  have oL : Own env env.locals := .inl rfl
  have hLO : ¬ Own env L := fun o => nL (S.own _ o)
  have hLl : L ≠ env.locals := fun e => hLO (e ▸ oL)
  have hbL : h₀.get? L = Option.none := by
    cases e : h₀.get? L with
    | none => rfl
    | some o => have := S.base _ _ e; rw [hLn] at this; cases this
  obtain ⟨m, hn, hv⟩ := S.loc
  refine wpAny_storeName_local (s := { s with heap := h1 }) hl (hn.keeps k1) (fun h2 hn2 hs2 => ?_) (by rw [hk']; rfl)
  have keepRd : ∀ {u : Value} {e : PyData}, Rd H s.heap u e → Rd (fun a => H a ∨ a = L) h2 u e := fun q =>
    q.imp fun a o ha e => ⟨fun z => z.elim ha (fun z => by rw [z, hLn] at e; cases e), (hs2.2 a (fun e' => ha (e' ▸ S.own _ oL))).trans (k1 _ _ e)⟩
  have kb2 : Kb env s.heap h2 := fun a o ha e => (hs2.2 a (fun z => ha (.inl z))).trans (k1 _ _ e)
  have pl2 : PlainL h2 L ([] : List Value).toArray := pl1.extBut hs2.extBut hLl
  have M : Mt h₀ H env L x ρ [] h2 := by
    refine ⟨⟨⟨fun a o e => (hs2.2 a (fun e' => by rw [e', S.new _ oL] at e; cases e)).trans (S1.base a o e), ?_, _, hn2, fun z e he => ?_⟩, fun a o => .inl (S.own a o),
      ⟨S1.fro.apart, fun n c hm => ⟨let ⟨u, hu⟩ := (S1.fro.cell n c hm).1; ⟨u, hu.sameBut hs2 (S1.fro.cell n c hm).2⟩, (S1.fro.cell n c hm).2⟩, S1.fro.all⟩, S1.new⟩, S.own, nL, hbL, hl, ⟨_, hn2, by simp⟩, ⟨[], pl2, fun _ _ => .nil⟩⟩
    · intro a ha
      by_cases hab : a = env.locals
      · subst hab; obtain ⟨o, _, _, e, _⟩ := hn2; exact ⟨o, e⟩
      · rcases ha with ha | rfl
        · obtain ⟨o, e⟩ := S1.live a ha; exact ⟨o, (hs2.2 a hab).trans e⟩
        · obtain ⟨o, _, e, _⟩ := pl2; exact ⟨o, e⟩
    · have hz : z ≠ x := fun e' => by subst e'; rw [hnx] at he; cases he
      rcases hv z e he with ⟨kl, u, eu, ru⟩ | ⟨kc, c, u, ec, ic, ru⟩
      · exact .inl ⟨kl, u, by simpa [hz] using eu, keepRd ru⟩
      · exact .inr ⟨kc, c, u, ec, (ic.keeps k1).sameBut hs2 (S.fro.cell z c (mem_of_lookup ec)).2, keepRd ru⟩
  refine hm A env { s with heap := h2, toks := s.toks + 1 } H L _ E R G M fun v h3 tk3 k3 r3 => ?_
  exact hQ _ h3 tk3 (fun a o ha e => k3 a o ha (fun z => by rw [z, hLn] at e; cases e) (kb2 a o ha e)) ⟨v, rfl, r3⟩
end
end Mine

namespace Mine

def absI (a : Int) : Int := if a < 0 then -a else a
def firstEnds (ns : List Int) : List Int := (ns.take 30).map fun a => (absI a).fmod 1296
def growSeq (g : Int) : Nat → Int
  | 0 => g
  | k + 1 => (growSeq g k * 17 + 61).fmod 1297
def tailEnds (g : Int) : Nat → List Int
  | 0 => []
  | k + 1 => tailEnds g k ++ [(growSeq g (k + 1)).fmod 1296]
def grow0 (ns : List Int) : Int := 400 + (firstEnds ns).sum
def endsOf (ns : List Int) : List Int := firstEnds ns ++ tailEnds (grow0 ns) (30 - (firstEnds ns).length)

theorem fmod_range (a : Int) {m : Int} (hm : 0 < m) : 0 ≤ a.fmod m ∧ a.fmod m < m := ⟨Int.fmod_nonneg_of_pos a hm, Int.fmod_lt_of_pos a hm⟩

theorem firstEnds_range {ns : List Int} {a : Int} (h : a ∈ firstEnds ns) : 0 ≤ a ∧ a < 1296 := by
  obtain ⟨b, _, rfl⟩ := List.mem_map.mp h
  exact fmod_range _ (by decide)
theorem firstEnds_len (ns : List Int) : (firstEnds ns).length ≤ 30 := by unfold firstEnds; rw [List.length_map, List.length_take]; omega
theorem tailEnds_len (g : Int) : ∀ k, (tailEnds g k).length = k
  | 0 => rfl
  | k + 1 => by rw [tailEnds, List.length_append, tailEnds_len g k]; rfl
theorem tailEnds_range (g : Int) : ∀ k, ∀ a ∈ tailEnds g k, 0 ≤ a ∧ a < 1296
  | 0, a, h => by cases h
  | k + 1, a, h => by
    rw [tailEnds, List.mem_append, List.mem_singleton] at h
    rcases h with h | rfl
    · exact tailEnds_range g k a h
    · exact fmod_range _ (by decide)
theorem sum_range : ∀ {l : List Int}, (∀ a ∈ l, 0 ≤ a ∧ a < 1296) → 0 ≤ l.sum ∧ l.sum ≤ 1296 * (l.length : Int)
  | [], _ => by simp
  | a :: l, h => by
    have h1 := h a List.mem_cons_self
    have h2 := sum_range fun b hb => h b (List.mem_cons_of_mem _ hb)
    rw [List.sum_cons, List.length_cons]
    omega
theorem grow_range (ns : List Int) : ∀ k, 0 ≤ growSeq (grow0 ns) k ∧ growSeq (grow0 ns) k < 100000
  | 0 => by
    have h := sum_range (l := firstEnds ns) fun a h => firstEnds_range h
    have h2 := firstEnds_len ns
    show 0 ≤ grow0 ns ∧ grow0 ns < 100000
    unfold grow0
    omega
  | k + 1 => by
    have := fmod_range (growSeq (grow0 ns) k * 17 + 61) (m := 1297) (by decide)
    show 0 ≤ Int.fmod _ _ ∧ Int.fmod _ _ < 100000
    omega
theorem endsOf_len (ns : List Int) : (endsOf ns).length = 30 := by
  have := firstEnds_len ns
  rw [endsOf, List.length_append, tailEnds_len]; omega
theorem endsOf_range {ns : List Int} {a : Int} (h : a ∈ endsOf ns) : 0 ≤ a ∧ a < 1296 := by
  rw [endsOf, List.mem_append] at h
  rcases h with h | h
  · exact firstEnds_range h
  · exact tailEnds_range _ _ _ h

section
variable {w : World} {h₀ : Heap} {mg mb : Str → Option Value} {n : Nat}

theorem ends_spec (X : Ground h₀ mg mb) {ns : List Int} (hn : ns.length ≤ 63) : Fn pg w h₀ mg 1 21 [.list (ns.map .int)] (.list ((endsOf ns).map .int)) := by
  have hl := firstEnds_len ns
  refine Fn.intro (ps := ["script"]) X ?_ ?_ ?_ ?_ rfl ?_
  · refine Exs.grow ?_
    refine Mr.cons (ρ' := [("script", .list (ns.map .int))]) (ns' := firstEnds ns) ?_ ?_
    · have h0 := Mx.forL (prog := pg) (w := w) (h₀ := h₀) (n := 0) (sc := (defAt 21).scope) (x := "ends") (ρ := [("script", .list (ns.map .int))]) (ds := (ns.take 30).map .int) (g := fun k => (firstEnds ns).take k)
        (y := "cell") (p := ⟨86, 8, 86, 12⟩) (pos := ⟨86, 4, 87, 42⟩)
        (iter := match (defAt 21).body with | _ :: .For _ i _ _ _ :: _ => i | _ => .Constant .none 0 ⟨0, 0, 0, 0⟩)
        (body := match (defAt 21).body with | _ :: .For _ _ b _ _ :: _ => b | _ => [])
        ?_ ?_
      · have e : (firstEnds ns).take ((ns.take 30).map PyData.int).length = firstEnds ns := by
          rw [List.take_of_length_le]
          unfold firstEnds
          simp
        have h0 := h0
        simp only [e] at h0
        exact h0
      · refine (Ev.slice (a := Option.none) (b := some 30) (Ev.name rfl) ?_ ?_ ?_).to ?_
        · exact True.intro
        · exact Ev.int
        · simp; omega
        · rw [show (some (30 : Int)) = some ((30 : Nat) : Int) from rfl, sliceD_upto, List.map_take]
      · intro k hk
        have hk' : k < (ns.take 30).length := by simpa using hk
        have e : (firstEnds ns).take (k + 1) = (firstEnds ns).take k ++ [(absI (ns.take 30)[k]).fmod 1296] := by
          rw [List.take_add_one]
          unfold firstEnds
          rw [List.getElem?_map, List.getElem?_eq_getElem hk']
          rfl
        have e2 : ((ns.take 30).map PyData.int)[k] = .int (ns.take 30)[k] := List.getElem_map ..
        rw [e, e2]
        refine Mxs.less (ρ' := [("cell", .int (ns.take 30)[k]), ("script", .list (ns.map .int))]) ?_ ⟨rfl, True.intro⟩
        refine Mxs.cons ?_ Mxs.nil
        refine Mx.append ?_ ?_
        · exact Ev.mod (Ev.blt X (Evs.cons (Ev.blt X (Evs.cons (Ev.name rfl) Evs.nil) Ca.int) Evs.nil) Ca.abs) Ev.int (by decide)
        · rw [List.length_take]; omega
    refine Mr.cons (Mx.store (Ev.add Ev.int (Ev.blt X (Evs.cons (Ev.name rfl) Evs.nil) Ca.sum))) ?_
    refine Mr.cons (ρ' := [("grow", .int (growSeq (grow0 ns) (30 - (firstEnds ns).length)))]) (ns' := endsOf ns) ?_ ?_
    · have h0 := Mx.while (prog := pg) (w := w) (h₀ := h₀) (n := 0) (sc := (defAt 21).scope) (x := "ends") (N := 30 - (firstEnds ns).length) (r := fun k => [("grow", .int (growSeq (grow0 ns) k))])
        (g := fun k => firstEnds ns ++ tailEnds (grow0 ns) k) (pos := ⟨89, 4, 91, 32⟩)
        (test := match (defAt 21).body with | _ :: _ :: _ :: .While t _ _ _ :: _ => t | _ => .Constant .none 0 ⟨0, 0, 0, 0⟩)
        (body := match (defAt 21).body with | _ :: _ :: _ :: .While _ b _ _ :: _ => b | _ => [])
        ?_ ?_
      · refine fun A env s H L Q E R G M hQ => h0 A env s H L Q E R G ?_ hQ
        have : firstEnds ns ++ tailEnds (grow0 ns) 0 = firstEnds ns := by simp [tailEnds]
        simp only [this]
        exact M.less ⟨rfl, True.intro⟩
      · intro k hk
        refine (Te.cmp (Ev.blt X (Evs.cons (Ev.name rfl) Evs.nil) (Ca.len ?_)) Ev.int (CmpD.lt _ _)).to ?_
        · simp [tailEnds_len]; omega
        · simp [tailEnds_len]; omega
      · intro k hk
        have hg := grow_range ns k
        have e : firstEnds ns ++ tailEnds (grow0 ns) (k + 1) = (firstEnds ns ++ tailEnds (grow0 ns) k) ++ [(growSeq (grow0 ns) (k + 1)).fmod 1296] := by rw [tailEnds, List.append_assoc]
        rw [e]
        refine Mxs.less (ρ' := [("grow", .int (growSeq (grow0 ns) (k + 1))), ("grow", .int (growSeq (grow0 ns) k))]) ?_ ⟨rfl, True.intro⟩
        refine Mxs.cons (Mx.store (i := growSeq (grow0 ns) (k + 1)) ?_) ?_
        · exact Ev.mod (Ev.add (Ev.mul (Ev.name rfl) Ev.int (PySem.IntMulOk.of_left (PySem.intBits_le_64 (by omega) (by omega)))) Ev.int) Ev.int (by decide)
        refine Mxs.cons ?_ Mxs.nil
        refine Mx.append ?_ ?_
        · exact Ev.mod (Ev.name rfl) Ev.int (by decide)
        · rw [List.length_append, tailEnds_len]; omega
    refine Mr.ret ?_
    exact Ev.name rfl
  · intro pm cd doc vs hv
    match vs, hv with
    | [_], _ => rfl
  · decide +kernel
  · decide +kernel
  · decide +kernel
end
end Mine

namespace Mine

/-- what stands after some turns of the widening: each end is the first or the last one possible, the moves are counted -/
structure WOk (a b lo hi m : Int) : Prop where
  l0 : -2147483648 ≤ lo
  h0 : hi ≤ 2147483647
  l : lo = a ∨ lo = -2147483648
  h : hi = b ∨ hi = 2147483647
  mv : m = (if lo = a then 0 else 1) + (if hi = b then 0 else 1)

def wLo (lo c : Int) : Int := if lo ≤ min lo c then lo else -2147483648
def wHi (hi d : Int) : Int := if max hi d ≤ hi then hi else 2147483647
def one01 (x y : Int) : Int := if x = y then 0 else 1

theorem wLo_le {lo c : Int} (h : -2147483648 ≤ lo) (hc : -2147483648 ≤ c) : wLo lo c ≤ lo ∧ wLo lo c ≤ c := by unfold wLo; split <;> omega
theorem wHi_le {hi d : Int} (h : hi ≤ 2147483647) (hd : d ≤ 2147483647) : hi ≤ wHi hi d ∧ d ≤ wHi hi d := by unfold wHi; split <;> omega
theorem wok_next {a b lo hi m c d : Int} (W : WOk a b lo hi m) (hc : -2147483648 ≤ c) (hd : d ≤ 2147483647) : WOk a b (wLo lo c) (wHi hi d) (m + (one01 (wLo lo c) lo + one01 (wHi hi d) hi)) := by
  obtain ⟨h1, h2, h3, h4, h5⟩ := W
  have hw1 : wLo lo c = lo ∨ (wLo lo c = -2147483648 ∧ lo ≠ -2147483648) := by unfold wLo; split <;> omega
  have hw2 : wHi hi d = hi ∨ (wHi hi d = 2147483647 ∧ hi ≠ 2147483647) := by unfold wHi; split <;> omega
  have k1 : (if wLo lo c = a then (0 : Int) else 1) = (if lo = a then 0 else 1) + one01 (wLo lo c) lo := by
    unfold one01
    rcases hw1 with e | ⟨e, n⟩
    · rw [e]; simp
    · have : lo = a := h3.resolve_right n
      rw [e, if_pos this, if_neg (by omega), if_neg (by omega)]; rfl
  have k2 : (if wHi hi d = b then (0 : Int) else 1) = (if hi = b then 0 else 1) + one01 (wHi hi d) hi := by
    unfold one01
    rcases hw2 with e | ⟨e, n⟩
    · rw [e]; simp
    · have : hi = b := h4.resolve_right n
      rw [e, if_pos this, if_neg (by omega), if_neg (by omega)]; rfl
  refine ⟨by omega, by omega, by omega, by omega, ?_⟩
  rw [k1, k2, h5]; omega
theorem wok_two {a b lo hi m : Int} (W : WOk a b lo hi m) : m ≤ 2 := by
  have := W.mv
  split at this <;> split at this <;> omega

def wBody : List Stmt := match (defAt 29).body with
  | _ :: _ :: .For _ _ b _ _ :: _ => b
  | _ => []

section
variable {w : World} {h₀ : Heap} {mg mb : Str → Option Value} {n : Nat} {sc : Scope} {ρ : Rho} {prog : Program}

theorem Ev.changed {x y : Expr} {k1 k2 p1 p2 cp ip} {u v : Int} (hx : Ev prog w h₀ n sc ρ x (.int u)) (hy : Ev prog w h₀ n sc ρ y (.int v)) (hm : behindInMarks .NotEq y = false := by with_unfolding_all rfl) :
    Ev prog w h₀ n sc ρ (.IfExp (.Compare x [.NotEq] [y] cp) (.Constant (.int 1) k1 p1) (.Constant (.int 0) k2 p2) ip) (.int (one01 u v)) := by
  refine Ev.ite (c := !(u == v)) ((Te.cmp hx hy (CmpD.ne (shI _) (shI _)) hm).to (by rw [eqvI])) (fun h => ?_) (fun h => ?_)
  · refine Ev.int.to ?_
    unfold one01; rw [if_neg (by simpa using h)]
  · refine Ev.int.to ?_
    unfold one01; rw [if_pos (by simpa using h)]

set_option maxHeartbeats 1000000 in
theorem widen_turn (X : Ground h₀ mg mb) {I : PyData} {a b lo hi m c d : Int} (W : WOk a b lo hi m) (hc : -2147483648 ≤ c) (hd : d ≤ 2147483647) :
    Exs pg w h₀ 1 (defAt 29).scope [("span", tI c d), ("held", tI lo hi), ("moves", .int m), ("in_turn", I)] wBody (.next [("held", tI (wLo lo c) (wHi hi d)), ("moves", .int (m + (one01 (wLo lo c) lo + one01 (wHi hi d) hi))), ("in_turn", I)]) := by
  have e1 := wLo_le W.l0 hc
  have e2 := wHi_le W.h0 hd
  refine Exs.cons (ρ' := [("after_it", tI (wLo lo c) (wHi hi d)), ("span", tI c d), ("held", tI lo hi), ("moves", .int m), ("in_turn", I)]) (Ex.store ?_) ?_
  · exact Ev.dcall 13 X (Evs.cons (Ev.name rfl) (Evs.cons (Ev.dcall 12 X (Evs.cons (Ev.name rfl) (Evs.cons (Ev.name rfl) Evs.nil)) (join_spec X)) Evs.nil)) (widen_spec X)
  refine Exs.cons (ρ' := [("after_it", tI (wLo lo c) (wHi hi d)), ("span", tI c d), ("held", tI lo hi), ("moves", .int m), ("in_turn", I)]) ?_ ?_
  · refine Ex.ifT (c := false) (Te.or (Ors.go ?_ (Ors.go ?_ (Ors.go ?_ Ors.nil)))) (by simp) (fun _ => Exs.nil)
    · refine (Te.not (Te.val (b := true) ((Ev.dcall 11 X (Evs.cons (Ev.name rfl) (Evs.cons (Ev.name rfl) Evs.nil)) (within_spec X)).to ?_))).to rfl
      rw [decide_eq_true e1.1, decide_eq_true e2.1]; rfl
    · refine (Te.not (Te.val (b := true) ((Ev.dcall 11 X (Evs.cons (Ev.name rfl) (Evs.cons (Ev.name rfl) Evs.nil)) (within_spec X)).to ?_))).to rfl
      rw [decide_eq_true e1.2, decide_eq_true e2.2]; rfl
    · refine Te.unsame ((Ev.dcall 13 X (Evs.cons (Ev.name rfl) (Evs.cons (Ev.name rfl) Evs.nil)) (widen_spec X)).to ?_) (Ev.name rfl) (shT _ _)
      rw [if_pos e1.1, if_pos e2.1]
  refine Exs.cons (ρ' := [("moves", .int (m + (one01 (wLo lo c) lo + one01 (wHi hi d) hi))), ("after_it", tI (wLo lo c) (wHi hi d)), ("span", tI c d), ("held", tI lo hi), ("moves", .int m), ("in_turn", I)]) (Ex.aug rfl ?_) ?_
  · exact Ev.add (Ev.changed (Ev.item (Ev.name rfl)) (Ev.item (Ev.name rfl))) (Ev.changed (Ev.item (Ev.name rfl)) (Ev.item (Ev.name rfl)))
  refine Exs.less (ρ1 := [("held", tI (wLo lo c) (wHi hi d)), ("moves", .int (m + (one01 (wLo lo c) lo + one01 (wHi hi d) hi))), ("after_it", tI (wLo lo c) (wHi hi d)), ("span", tI c d), ("held", tI lo hi), ("moves", .int m), ("in_turn", I)]) ?_ ⟨rfl, rfl, rfl, True.intro⟩
  exact Exs.cons (Ex.store (Ev.name rfl)) Exs.nil

theorem widen_turns (X : Ground h₀ mg mb) {I : PyData} {a b : Int} : ∀ (ps : List (Int × Int)) {lo hi m : Int}, WOk a b lo hi m → (∀ p ∈ ps, -2147483648 ≤ p.1 ∧ p.2 ≤ 2147483647) →
    ∃ lo' hi' m', WOk a b lo' hi' m' ∧ Forr pg w h₀ 1 (defAt 29).scope "span" wBody [("held", tI lo hi), ("moves", .int m), ("in_turn", I)] (ps.map tP) (.next [("held", tI lo' hi'), ("moves", .int m'), ("in_turn", I)])
  | [], lo, hi, m, W, _ => ⟨lo, hi, m, W, .nil⟩
  | p :: ps, lo, hi, m, W, hp => by
    have h1 := hp p List.mem_cons_self
    obtain ⟨lo', hi', m', W', f⟩ := widen_turns X ps (wok_next W h1.1 h1.2) fun q hq => hp q (List.mem_cons_of_mem _ hq)
    exact ⟨lo', hi', m', W', .next (widen_turn X W h1.1 h1.2) f⟩

theorem widening_spec (X : Ground h₀ mg mb) {p : Int × Int} {ps : List (Int × Int)} (hp : ∀ q ∈ p :: ps, -2147483648 ≤ q.1 ∧ q.2 ≤ 2147483647) (hl : ps.length ≤ 1000) : Fn pg w h₀ mg 2 29 [.list ((p :: ps).map tP)] (.bool true) := by
  have h1 := hp p List.mem_cons_self
  have W0 : WOk p.1 p.2 p.1 p.2 0 := ⟨h1.1, h1.2, .inl rfl, .inl rfl, by simp⟩
  obtain ⟨lo, hi, m, W, f⟩ := widen_turns (w := w) (I := .list ((p :: ps).map tP)) X ps W0 fun q hq => hp q (List.mem_cons_of_mem _ hq)
  refine Fn.intro (ps := ["in_turn"]) X ?_ ?_ ?_ ?_ rfl ?_
  · refine Exs.cons (Ex.store (d := tI p.1 p.2) ?_) ?_
    · exact Ev.itemL (Ev.name rfl) Ev.int (by decide) (by decide) rfl
    refine Exs.cons (Ex.store Ev.int) ?_
    refine Exs.cons (ρ' := [("held", tI lo hi), ("moves", .int m), ("in_turn", .list ((p :: ps).map tP))]) ?_ ?_
    · intro A env s H Q E R G S hQ
      have S' : SS h₀ H env [("held", tI p.1 p.2), ("moves", .int 0), ("in_turn", .list ((p :: ps).map tP))] s.heap := S.less ⟨rfl, rfl, rfl, True.intro⟩
      refine (Ex.forL (ds := ps.map tP) ?_ f) A env s H Q E R G S' hQ
      refine (Ev.slice (a := some 1) (b := Option.none) (Ev.name rfl) ?_ ?_ ?_).to ?_
      · exact Ev.int
      · exact True.intro
      · simp; omega
      · rw [show (some (1 : Int)) = some ((1 : Nat) : Int) from rfl, sliceD_from]; rfl
    refine Exs.ret ?_
    refine Ex.ret ?_
    exact (Ev.cmp (Ev.name rfl) Ev.int (CmpD.le _ _)).to (by rw [decide_eq_true (wok_two W)])
  · intro pm cd doc vs hv
    match vs, hv with
    | [_], _ => rfl
  · decide +kernel
  · decide +kernel
  · decide +kernel
end
end Mine

namespace Mine

def spanP (f : Int) : Int × Int := (f.fmod 12 - 6, f.fmod 12 - 6 + (f.fdiv 12).fmod 6)
theorem spanP_sp (f : Int) : Sp (spanP f).1 (spanP f).2 := by
  have h1 := fmod_range f (m := 12) (by decide)
  have h2 := fmod_range (f.fdiv 12) (m := 6) (by decide)
  refine ⟨?_, ?_, ?_, ?_⟩ <;> simp only [spanP] <;> omega

theorem list4 {l : List Int} (h : l.length = 30) : ∃ a b c d r, l = a :: b :: c :: d :: r ∧ r.length = 26 := by
  match l, h with
  | a :: b :: c :: d :: r, h => exact ⟨a, b, c, d, r, rfl, by simpa using h⟩

section
variable {w : World} {h₀ : Heap} {mg mb : Str → Option Value} {n : Nat}

theorem law_body (X : Ground h₀ mg mb) {ns : List Int} (hn : ns.length ≤ 63) : Exs pg w h₀ 4 (defAt 30).scope [("script", .list (ns.map .int))] (defAt 30).body (.ret (.bool true)) := by
  obtain ⟨a, b, c, d, r, hE, hr⟩ := list4 (endsOf_len ns)
  have hends : Fn pg w h₀ mg 4 21 [.list (ns.map .int)] (.list ((a :: b :: c :: d :: r).map .int)) := hE ▸ (ends_spec X hn).mono (by decide)
  have sa := spanP_sp a; have sb := spanP_sp b; have sc := spanP_sp c
  have hd := fmod_range d (m := 8) (by decide)
  have hspan : ∀ f : Int, Fn pg w h₀ mg 4 22 [.int f] (tP (spanP f)) := fun f => (span_spec X).mono (by decide)
  refine Exs.cons (Ex.store (Ev.dcall 21 X (Evs.cons (Ev.name rfl) Evs.nil) hends)) ?_
  refine Exs.cons (Ex.store (Ev.dcall 22 X (Evs.cons (Ev.itemL (Ev.name rfl) Ev.int (by decide) (by decide) rfl) Evs.nil) (hspan a))) ?_
  refine Exs.cons (Ex.store (Ev.dcall 22 X (Evs.cons (Ev.itemL (Ev.name rfl) Ev.int (by decide) (by decide) rfl) Evs.nil) (hspan b))) ?_
  refine Exs.cons (Ex.store (Ev.dcall 22 X (Evs.cons (Ev.itemL (Ev.name rfl) Ev.int (by decide) (by decide) rfl) Evs.nil) (hspan c))) ?_
  refine Exs.cons (ρ' := [("z", tP (spanP c)), ("y", tP (spanP b)), ("x", tP (spanP a)), ("ends", .list ((a :: b :: c :: d :: r).map .int)), ("script", .list (ns.map .int))]) ?_ ?_
  · refine Ex.ifT (c := false) (Te.or (Ors.go ?_ (Ors.go ?_ Ors.nil))) (by simp) (fun _ => Exs.nil)
    · exact (Te.not (Te.val (b := true) (Ev.dcall 26 X (Evs.cons (Ev.name rfl) (Evs.cons (Ev.name rfl) Evs.nil)) (results_spec X sa sb)))).to rfl
    · exact (Te.not (Te.val (b := true) (Ev.dcall 27 X (Evs.cons (Ev.name rfl) (Evs.cons (Ev.name rfl) Evs.nil)) (relations_spec X sa sb)))).to rfl
  refine Exs.cons (ρ' := [("z", tP (spanP c)), ("y", tP (spanP b)), ("x", tP (spanP a)), ("ends", .list ((a :: b :: c :: d :: r).map .int)), ("script", .list (ns.map .int))]) ?_ ?_
  · refine Ex.ifT (c := false) ?_ (by simp) (fun _ => Exs.nil)
    exact (Te.not (Te.val (b := true) (Ev.dcall 28 X (Evs.cons (Ev.name rfl) (Evs.cons (Ev.name rfl) (Evs.cons (Ev.name rfl) Evs.nil))) ((lattice_spec X sa sb sc).mono (by decide))))).to rfl
  refine Exs.ret ?_
  refine Ex.ret ?_
  have hL : ∀ k : Nat, ((a :: b :: c :: d :: r).drop 3).take (k + 1) = d :: r.take k := fun k => rfl
  obtain ⟨k, hk, hk8⟩ : ∃ k : Nat, (3 : Int) + 2 + d.fmod 8 = ((3 + (k + 1) : Nat) : Int) ∧ k ≤ 8 := ⟨(1 + d.fmod 8).toNat, by omega, by omega⟩
  refine Ev.dcall 29 X (Evs.cons (d := .list ((spanP d :: (r.take k).map spanP).map tP)) ?_ Evs.nil) ((widening_spec X ?_ ?_).mono (by decide))
  · refine (Ev.comp [] (ds := (d :: r.take k).map .int) (out := (d :: r.take k).map fun f => tP (spanP f)) ?_ ?_ ?_ True.intro).to ?_
    · refine (Ev.slice (a := some 3) (b := some (3 + 2 + d.fmod 8)) (Ev.name rfl) ?_ ?_ ?_).to ?_
      · exact Ev.int
      · exact Ev.add (Ev.add Ev.int Ev.int) (Ev.mod (Ev.itemL (Ev.name rfl) Ev.int (by decide) (by decide) rfl) Ev.int (by decide))
      · simp; omega
      · rw [hk, show (some (3 : Int)) = some ((3 : Nat) : Int) from rfl, sliceD_run _ _ _ (by omega) (by simp; omega)]
        rw [← hL, List.map_take, List.map_drop]
        congr 2
        omega
    · exact Cmp.all1 fun f hf => ⟨_, Bnd.name rfl rfl, Tsts.nil, Ev.dcall 22 X (Evs.cons (Ev.name rfl) Evs.nil) (hspan f)⟩
    · simp; omega
    · rw [List.map_cons, List.map_cons, List.map_map]; rfl
  · intro q hq
    obtain ⟨f, rfl⟩ : ∃ f, q = spanP f := by
      rcases List.mem_cons.mp hq with e | hq
      · exact ⟨d, e⟩
      · obtain ⟨f, _, e⟩ := List.mem_map.mp hq; exact ⟨f, e.symm⟩
    have := spanP_sp f
    have h1 := this.lo; have h2 := this.hi
    omega
  · rw [List.length_map, List.length_take]; omega
end
end Mine

namespace Mine

def defsIn : List Nat := [3, 4, 5, 6, 7, 8, 9, 10, 11, 12, 13, 14, 15, 16, 17, 18, 19, 21, 22, 23, 24, 25, 26, 27, 28, 29, 30]
def bltIn : List Str := ["min", "max", "abs", "int", "sum", "len", "list", "range"]

theorem rd_of_reads_int {h : Heap} {v : Value} {i : Int} (r : Reads h v (.int i) []) : ∃ t, v = .int i t := by
  cases r with
  | int _ t => exact ⟨t, rfl⟩

theorem ground_of_top {p : Program} {loose : List Str} {mean : ExcName → Option Value} {mg mb : Str → Option Value} {h : Heap} (T : Top p loose mean mg mb h)
    (hrec : recsOf p = defsIn.map defAt)
    (hl : valOf p "LEAST" = some (.int (-2147483648))) (hg : valOf p "GREATEST" = some (.int 2147483647))
    (hfree : (bltIn.all fun x => !(startupNames.contains x) && !(loose.contains x) && !(((recsOf p).map (·.name)).contains x) && !(((litsOf p).map (·.1)).contains x) && !(((clssOf p loose).map (·.name)).contains x)) = true) :
    Mine.Ground h mg mb where
  g := T.g
  b := T.b
  nolimit := T.nolimit
  fn := fun i h2 h31 h20 => by
    refine T.fn (defAt i) ?_
    rw [hrec]
    refine List.mem_map_of_mem ?_
    simp only [defsIn, List.mem_cons, List.not_mem_nil, or_false]
    omega
  least := by
    obtain ⟨v, e, r⟩ := T.const _ _ hl
    obtain ⟨t, rfl⟩ := rd_of_reads_int (r h)
    exact ⟨t, e⟩
  greatest := by
    obtain ⟨v, e, r⟩ := T.const _ _ hg
    obtain ⟨t, rfl⟩ := rd_of_reads_int (r h)
    exact ⟨t, e⟩
  free := fun x hx => by
    have := List.all_eq_true.mp hfree x hx
    simp only [Bool.and_eq_true, Bool.not_eq_true', List.contains_eq_mem, decide_eq_false_iff_not] at this
    exact T.free x this.1.1.1.1 this.1.1.1.2 this.1.1.2 this.1.2 this.2
  builtins := fun x hx => T.builtins x fun e => by
    subst e
    revert hx
    decide +kernel

theorem rd_ints {H : Addr → Prop} {h : Heap} : ∀ {vs : List Value} {ns : List Int}, IntsAre vs ns → RdAll H h vs (ns.map .int)
  | _, _, .nil => .nil
  | _, _, .cons n t x => .cons (.int n t) (rd_ints x)

theorem law_fin {w : World} {mg mb : Str → Option Value} {s₁ : Shared} {h₁ : Heap} {l fa : Addr} {cdv : Value} {vs : List Value} {ns : List Int} {cl : Str → Option Addr} {mean : ExcName → Option Value} {E : Value → Shared → Prop} {tk : Nat}
    (X : Mine.Ground s₁.heap mg mb) (hL : s₁.heap.IsList l vs.toArray) (hI : IntsAre vs ns) (hn : ¬ (63 : Int) < ns.length)
    (F : Fr s₁.heap s₁.heap.objs.size h₁ fun x => List.lookup x [(("script" : Str), Value.ref l)].reverse) (hg : s₁.gens = #[]) :
    wpAny (model pg w) (callerA.deeper (envOf (defAt 30).name (defAt 30).scope s₁.heap.objs.size fa cdv)) (execs (defAt 30).body (envOf (defAt 30).name (defAt 30).scope s₁.heap.objs.size fa cdv))
      (fun f s' => GoodW PySem.Challenge.rw_pq0741_01.row.claim cl mean [ofPy (PyData.list (List.map PyData.int ns))] s₁ (.ok (.ret (match f with | .ret v => v | _ => .none))) s') E
      { heap := h₁, gens := s₁.gens, drawn := s₁.drawn, toks := tk, os := s₁.os } := by
  generalize henv : envOf (defAt 30).name (defAt 30).scope s₁.heap.objs.size fa cdv = env
  have hLoc : env.locals = s₁.heap.objs.size := by rw [← henv]; rfl
  have hCel : env.cells = [] := by rw [← henv]; rfl
  have hSco : env.scope = (defAt 30).scope := by rw [← henv]; rfl
  have G : EnvG (defAt 30).scope env := ⟨hSco, by rw [← henv]; rfl, by rw [← henv]; rfl⟩
  have R : Rm 4 (callerA.deeper env) := ⟨rfl, by simp only [Around.deeper]; decide +kernel, by simp only [Around.deeper]; decide +kernel⟩
  have hown : ∀ a, Own env a → a = s₁.heap.objs.size := fun a o => by
    rcases o with e | ⟨y, hy⟩
    · rw [e, hLoc]
    · rw [hCel] at hy; cases hy
  have hkd : ∀ y, env.kindOf y = (defAt 30).scope.names.lookup y := fun y => by rw [Env.kindOf, hSco]
  have hlt : ¬ l = s₁.heap.objs.size := fun e => by
    obtain ⟨o, ho, _⟩ := hL
    exact absurd (Heap.lt_size ho) (by rw [e]; exact Nat.lt_irrefl _)
  have S : SS s₁.heap (fun a => a = s₁.heap.objs.size) env [("script", .list (ns.map .int))] h₁ := by
    refine ⟨⟨F.keep, fun a ha => ?_, _, hLoc ▸ F.ns, fun x d e => ?_⟩, hown, ⟨by rw [hCel]; exact .nil, fun n c hm => (by rw [hCel] at hm; cases hm), fun x hx => ?_⟩, fun a o => ?_⟩
    · subst ha
      obtain ⟨o, _, _, e, _⟩ := F.ns
      exact ⟨o, e⟩
    · by_cases hx : x = ("script" : Str)
      · subst hx
        rw [lookup_cons_eq] at e
        cases e
        refine .inl ⟨by rw [hkd]; rfl, .ref l, by simp, Rd.ofList hlt (let ⟨o, ho, z⟩ := hL; ⟨o, F.keep _ _ ho, z⟩) (rd_ints hI)⟩
      · rw [lookup_cons_ne hx] at e
        cases e
    · rw [hkd] at hx
      have hm := mem_of_lookup hx
      have ha : ((defAt 30).scope.names.all fun p => p.2 != .cell) = true := by rfl
      have := List.all_eq_true.mp ha _ hm
      exact absurd this (by simp)
    · rw [hown a o]; exact get?_size _
  have hn' : ns.length ≤ 63 := by omega
  refine law_body X hn' _ env _ _ _ E R G S fun f h' tk' k ho => ?_
  obtain ⟨v, rfl, r⟩ := ho
  cases r
  refine ⟨.inl ⟨_, .bool true, [], rfl, raisesW_false allW_false_nil, .bool true, by wrow_post, fun _ => ⟨.nil, fun a ha => by cases ha⟩⟩, fun b o e => k b o (fun ob => ?_) (F.keep b o e), rfl, hg⟩
  exact absurd (Heap.lt_size e) (by rw [hown b ob]; exact Nat.lt_irrefl _)
end Mine

set_option maxHeartbeats 8000000 in
theorem PySem.Challenge.cw_pq0741_01_holds : PySem.Challenge.rw_pq0741_01.Holds := by
  open_k0
  rename Top _ _ _ _ _ _ => T
  rename IntsAre _ _ => hI
  rename Fr _ _ _ _ => F
  have X := Mine.ground_of_top T (by kernel_rfl) (by kernel_rfl) (by kernel_rfl) (by decide +kernel)
  exact Mine.law_fin X (by assumption) hI (by assumption) F (by assumption)
