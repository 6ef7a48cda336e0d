import PyProof.Rows.All
import Wide.All
import OpenK.KCell
import Wide.FinOn
import PySem.Challenge.RW_nu0155_01
set_option Elab.async false
set_option maxRecDepth 100000
set_option linter.unusedVariables false
namespace Mine
open PySem PySem.W PyProof.Rows PySem.Calls

/-! values without their tokens; a triple int, int, bool is a value too -/
inductive V where
  | int (i : Int) | bool (b : Bool) | none | str (x : Str) | ref (a : Addr) | tri (g c : Int) (u : Bool)

def Rep (h : Heap) (v : Value) : V → Prop
  | .int i => ∃ t, v = .int i t
  | .bool b => v = .bool b
  | .none => v = .none
  | .str x => ∃ t, v = .str x t
  | .ref a => v = .ref a
  | .tri g c u => ∃ a t1 t2, v = .ref a ∧ IsTup h a #[.int g t1, .int c t2, .bool u]

def Lst (h : Heap) (l : Addr) (us : List V) : Prop := ∃ (vs : List Value) (n : Nat), h.get? l = some (listOf vs.toArray n) ∧ Paired (Rep h) vs us

abbrev Sub (h h' : Heap) : Prop := ∀ b o, h.get? b = some o → h'.get? b = some o

def notDict (o : Obj) : Prop := ∀ es n, o.data ≠ .dict es n

/-- the heap has grown; of the rest the frame's own namespace alone may be another object, with the same names -/
structure Gw (L : Addr) (h h' : Heap) : Prop where
  keep : ∀ b o, b ≠ L → h.get? b = some o → h'.get? b = some o
  own : ∀ o, notDict o → h.get? L = some o → h'.get? L = some o
  ns : ∀ m, h.Ns L m → h'.Ns L m
  alive : ∀ b o, h.get? b = some o → ∃ o', h'.get? b = some o'

theorem Gw.refl {L h} : Gw L h h := ⟨fun _ _ _ e => e, fun _ _ e => e, fun _ e => e, fun _ o e => ⟨o, e⟩⟩
theorem Gw.trans {L h h' h''} (a : Gw L h h') (b : Gw L h' h'') : Gw L h h'' :=
  ⟨fun x o n e => b.keep x o n (a.keep x o n e), fun o d e => b.own o d (a.own o d e), fun m e => b.ns m (a.ns m e), fun x o e => let ⟨_, e'⟩ := a.alive x o e; b.alive x _ e'⟩
theorem Gw.ofSub {L h h'} (s : Sub h h') : Gw L h h' := ⟨fun b o _ e => s b o e, fun o _ e => s L o e, fun _ x => x.keeps s, fun b o e => ⟨o, s b o e⟩⟩
theorem Gw.fresh {L h h' a} (g : Gw L h h') (e : h'.get? a = none) : h.get? a = none := by
  cases q : h.get? a with
  | none => rfl
  | some o => obtain ⟨o', q'⟩ := g.alive a o q; rw [e] at q'; cases q'
theorem Gw.obj {L h h' b o} (g : Gw L h h') (d : notDict o) (e : h.get? b = some o) : h'.get? b = some o := by
  by_cases hb : b = L
  · subst hb; exact g.own o d e
  · exact g.keep b o hb e
theorem notDict_of {o : Obj} {xs n} (e : o.data = .seq xs n) : notDict o := fun _ _ h => by rw [e] at h; cases h
theorem notDict_plain {o : Obj} (e : o.data = .plain) : notDict o := fun _ _ h => by rw [e] at h; cases h
theorem Gw.tup {L h h' a its} (g : Gw L h h') (x : IsTup h a its) : IsTup h' a its := let ⟨o, e, c, n, d⟩ := x; ⟨o, g.obj (notDict_of d) e, c, n, d⟩
theorem Gw.list {L h h' a its} (g : Gw L h h') (x : h.IsList a its) : h'.IsList a its := let ⟨o, e, c, n, d⟩ := x; ⟨o, g.obj (notDict_of d) e, c, n, d⟩
theorem Gw.cell {L h h' c v} (g : Gw L h h') (x : Heap.IsCell h c v) : Heap.IsCell h' c v := let ⟨o, e, d⟩ := x; ⟨o, g.obj (fun _ _ q => by rw [d] at q; cases q) e, d⟩
theorem Gw.rep {L h h' v u} (g : Gw L h h') (x : Rep h v u) : Rep h' v u := by
  cases u <;> try exact x
  obtain ⟨a, t1, t2, e, i⟩ := x
  exact ⟨a, t1, t2, e, g.tup i⟩
theorem paired_mono {α β : Type} {F G : α → β → Prop} (hfg : ∀ a b, F a b → G a b) : ∀ {l : List α} {l' : List β}, Paired F l l' → Paired G l l'
  | _, _, .nil => .nil
  | _, _, .cons h r => .cons (hfg _ _ h) (paired_mono hfg r)
theorem Gw.lst {L h h' l us} (g : Gw L h h') (x : Lst h l us) : Lst h' l us :=
  let ⟨vs, n, i, p⟩ := x; ⟨vs, n, g.obj (notDict_of rfl) i, paired_mono (fun _ _ => g.rep) p⟩
theorem Lst.isList {h l us} (x : Lst h l us) : ∃ vs : List Value, h.IsList l vs.toArray ∧ Paired (Rep h) vs us := let ⟨vs, n, i, p⟩ := x; ⟨vs, ⟨_, i, rfl, n, rfl⟩, p⟩
/-- a list with these items; of its object no more is said -/
def Its (h : Heap) (l : Addr) (us : List V) : Prop := ∃ vs : List Value, h.IsList l vs.toArray ∧ Paired (Rep h) vs us
theorem Gw.its {L h h' l us} (g : Gw L h h') (x : Its h l us) : Its h' l us := let ⟨vs, i, p⟩ := x; ⟨vs, g.list i, paired_mono (fun _ _ => g.rep) p⟩

theorem Sub.refl {h} : Sub h h := fun _ _ e => e
theorem rep_sub {h h' v u} (s : Sub h h') (x : Rep h v u) : Rep h' v u := (Gw.ofSub (L := 0) s).rep x
theorem lst_sub {h h' v u} (s : Sub h h') (x : Lst h v u) : Lst h' v u := (Gw.ofSub (L := 0) s).lst x

/-! a frame's variables -/
def get : List (Str × V) → Str → Option V
  | [], _ => none
  | (y, u) :: r, x => if x = y then some u else get r x
def put : List (Str × V) → Str → V → List (Str × V)
  | [], x, u => [(x, u)]
  | (y, w) :: r, x, u => if x = y then (y, u) :: r else (y, w) :: put r x u
theorem get_put {m x u y} : get (put m x u) y = if y = x then some u else get m y := by
  induction m with
  | nil => simp [put, get]
  | cons p r ih =>
    obtain ⟨z, w⟩ := p
    simp only [put]
    by_cases hx : x = z
    · subst hx; simp only [if_true, get]
      by_cases hy : y = x <;> simp [hy]
    · simp only [if_neg hx, get]
      by_cases hy : y = z
      · subst hy; simp [Ne.symm hx]
      · simp [hy, ih]

structure Fx (β : Heap) (env : Env) (h : Heap) (m : List (Str × V)) : Prop where
  kind : env.scope.kind = .function
  glob : env.globals = mainGlobals
  bult : env.builtins = builtinsNs
  sub : Sub β h
  newL : β.get? env.locals = none
  newC : ∀ x c, env.cells.lookup x = some c → β.get? c = none
  kindC : ∀ x c, env.cells.lookup x = some c → env.kindOf x ≠ some .local
  apart : env.cells.Pairwise fun x y => x.2 ≠ y.2
  ns : ∃ ml, h.Ns env.locals ml ∧ ∀ x u, get m x = some u → env.kindOf x = some .local → ∃ v, ml x = some v ∧ Rep h v u
  cell : ∀ x c, env.cells.lookup x = some c → ∃ ov, Heap.IsCell h c ov ∧ ∀ u, get m x = some u → ∃ v, ov = some v ∧ Rep h v u

theorem Gw.subβ {β h h' : Heap} {L} (g : Gw L h h') (s : Sub β h) (n : β.get? L = none) : Sub β h' := fun b o e => by
  by_cases hb : b = L
  · subst hb; rw [n] at e; cases e
  · exact g.keep b o hb (s b o e)

theorem Fx.gw {β env h h' m} (F : Fx β env h m) (g : Gw env.locals h h') : Fx β env h' m where
  kind := F.kind
  glob := F.glob
  bult := F.bult
  sub := g.subβ F.sub F.newL
  newL := F.newL
  newC := F.newC
  kindC := F.kindC
  apart := F.apart
  ns := let ⟨ml, n, k⟩ := F.ns; ⟨ml, g.ns ml n, fun x u e q => let ⟨v, a, b⟩ := k x u e q; ⟨v, a, g.rep b⟩⟩
  cell := fun x c e => let ⟨ov, i, k⟩ := F.cell x c e; ⟨ov, g.cell i, fun u q => let ⟨v, a, b⟩ := k u q; ⟨v, a, g.rep b⟩⟩

/-- fewer names -/
theorem Fx.less {β env h m m'} (F : Fx β env h m) (k : ∀ x u, get m' x = some u → get m x = some u) : Fx β env h m' :=
  { F with
    ns := let ⟨ml, n, q⟩ := F.ns; ⟨ml, n, fun x u e => q x u (k x u e)⟩
    cell := fun x c e => let ⟨ov, i, q⟩ := F.cell x c e; ⟨ov, i, fun u e => q u (k x u e)⟩ }

/-- room for k calls within one another -/
structure Lv (k : Nat) (A : Around) : Prop where
  hand : A.handled = none
  depth : A.depth + 3 * k ≤ 900
  units : A.units + 20 * k ≤ 9000
theorem Lv.le {k k' A} (x : Lv k A) (h : k' ≤ k) : Lv k' A := ⟨x.hand, by have := x.depth; omega, by have := x.units; omega⟩
theorem Lv.room {k A} (x : Lv k A) : A.depth < recursionLimit := by have := x.depth; unfold recursionLimit; omega
theorem Lv.line {k A} (x : Lv k A) : A.units < cLine := by have := x.units; unfold cLine; omega
theorem Lv.deeper {k A env} (x : Lv (k + 1) A) : Lv k (A.deeper env) := ⟨x.hand, by have := x.depth; show A.depth + 1 + _ ≤ _; omega, by have := x.units; show A.units + 3 + _ ≤ _; omega⟩

section
variable (prog : Program) (w : World)

/-- the expression yields what P says of the value and of the heap behind it; the heap only grows -/
def Gr (k : Nat) (env : Env) (h : Heap) (e : Expr) (P : Value → Heap → Heap → Prop) : Prop :=
  ∀ A, Lv k A → ∀ s : Shared, Gw env.locals h s.heap → ∀ (Q : Value → Shared → Prop) (E : Value → Shared → Prop),
    (∀ v h' t, Gw env.locals s.heap h' → P v s.heap h' → Q v { s with heap := h', toks := t }) → wpAny (model prog w) A (eval e env) Q E s

abbrev Ev (k : Nat) (env : Env) (h : Heap) (e : Expr) (u : V) : Prop := Gr prog w k env h e fun v _ h' => Rep h' v u
/-- a list with these items -/
abbrev EvA (k : Nat) (env : Env) (h : Heap) (e : Expr) (us : List V) : Prop := Gr prog w k env h e fun v _ h' => ∃ l, v = .ref l ∧ Lst h' l us
abbrev EvI (k : Nat) (env : Env) (h : Heap) (e : Expr) (us : List V) : Prop := Gr prog w k env h e fun v _ h' => ∃ l, v = .ref l ∧ Its h' l us
/-- a new list with these items -/
abbrev EvL (k : Nat) (env : Env) (h : Heap) (e : Expr) (us : List V) : Prop := Gr prog w k env h e fun v h₀ h' => ∃ l, v = .ref l ∧ Lst h' l us ∧ h₀.get? l = none

def Tr (k : Nat) (env : Env) (h : Heap) (e : Expr) (b : Bool) : Prop :=
  ∀ A, Lv k A → ∀ s : Shared, Gw env.locals h s.heap → ∀ (Q : Bool → Shared → Prop) (E : Value → Shared → Prop),
    (∀ h' t, Gw env.locals s.heap h' → Q b { s with heap := h', toks := t }) → wpAny (model prog w) A (isTrue e env (eval e env)) Q E s
end

section
variable {prog : Program} {w : World} {k : Nat} {env : Env} {h h' : Heap} {β : Heap} {m : List (Str × V)}

theorem Gr.mono {e : Expr} {P P' : Value → Heap → Heap → Prop} (x : Gr prog w k env h e P) (f : ∀ v h₀ h', P v h₀ h' → P' v h₀ h') : Gr prog w k env h e P' :=
  fun A a s g Q E q => x A a s g Q E fun v h' t g' p => q v h' t g' (f _ _ _ p)
theorem Gr.gw {e : Expr} {P : Value → Heap → Heap → Prop} (x : Gr prog w k env h e P) (g : Gw env.locals h h') : Gr prog w k env h' e P :=
  fun A a s g' Q E q => x A a s (g.trans g') Q E q
theorem EvL.a {e : Expr} {us : List V} (x : EvL prog w k env h e us) : EvA prog w k env h e us := Gr.mono x fun _ _ _ ⟨l, a, b, _⟩ => ⟨l, a, b⟩
theorem Ev.a {e : Expr} {l : Addr} {us : List V} (x : Ev prog w k env h e (.ref l)) (y : Lst h l us) : EvA prog w k env h e us :=
  fun A a s g Q E q => x A a s g Q E fun v h' t g' p => q v h' t g' ⟨l, p, (g.trans g').lst y⟩
theorem Ev.i {e : Expr} {l : Addr} {us : List V} (x : Ev prog w k env h e (.ref l)) (y : Its h l us) : EvI prog w k env h e us :=
  fun A a s g Q E q => x A a s g Q E fun v h' t g' p => q v h' t g' ⟨l, p, (g.trans g').its y⟩
theorem EvA.i {e : Expr} {us : List V} (x : EvA prog w k env h e us) : EvI prog w k env h e us := Gr.mono x fun _ _ _ ⟨l, a, b⟩ => ⟨l, a, b.isList⟩

theorem Fx.var {A : Around} {s : Shared} {x : Str} {pos : Pos} {u : V} {Q E} (F : Fx β env s.heap m) (hm : get m x = some u)
    (hk : env.kindOf x = some .local ∨ (env.kindOf x = some .cell ∧ (env.cells.lookup x).isSome = true))
    (q : ∀ v, Rep s.heap v u → Q v s) (hd : (x == ("__debug__" : Str)) = false) : wpAny (model prog w) A (eval (.Name x pos) env) Q E s := by
  rcases hk with hk | ⟨hk, hc⟩
  · obtain ⟨ml, n, k⟩ := F.ns
    obtain ⟨v, a, b⟩ := k x u hm hk
    exact wpAny_Name (wpAny_loadName_local F.kind hk n a (q v b)) hd
  · obtain ⟨c, hc⟩ := Option.isSome_iff_exists.mp hc
    obtain ⟨ov, i, k⟩ := F.cell x c hc
    obtain ⟨v, rfl, b⟩ := k u hm
    exact wpAny_Name (wpAny_loadName_cell F.kind hk hc i (q v b)) hd

theorem Ev.name {x : Str} {pos : Pos} {u : V} (F : Fx β env h m) (hm : get m x = some u)
    (hk : env.kindOf x = some .local ∨ (env.kindOf x = some .cell ∧ (env.cells.lookup x).isSome = true))
    (hd : (x == ("__debug__" : Str)) = false := by decide) : Ev prog w k env h (.Name x pos) u :=
  fun A _ s g Q E q => (F.gw g).var hm hk (fun v b => q v s.heap s.toks .refl b) hd

theorem Ev.int {i : Int} {kk : Nat} {pos : Pos} : Ev prog w k env h (.Constant (.int i) kk pos) (.int i) :=
  fun A _ s g Q E q => wpAny_Constant_int (q _ _ _ .refl ⟨_, rfl⟩)
theorem Ev.bool {b : Bool} {kk : Nat} {pos : Pos} : Ev prog w k env h (.Constant (.bool b) kk pos) (.bool b) :=
  fun A _ s g Q E q => Constant_bool (q _ s.heap s.toks .refl rfl)
theorem Ev.nothing {kk : Nat} {pos : Pos} : Ev prog w k env h (.Constant .none kk pos) .none :=
  fun A _ s g Q E q => Constant_none (q _ s.heap s.toks .refl rfl)
theorem Ev.str {x : Str} {kk : Nat} {pos : Pos} : Ev prog w k env h (.Constant (.str x) kk pos) (.str x) :=
  fun A _ s g Q E q => Constant_str (q _ _ _ .refl ⟨_, rfl⟩)

theorem Ev.add {l r : Expr} {pos : Pos} {a b : Int} (x : Ev prog w k env h l (.int a)) (y : Ev prog w k env h r (.int b)) : Ev prog w k env h (.BinOp l .Add r pos) (.int (a + b)) :=
  fun A hA s g Q E q => wpAny_BinOp (x A hA s g _ _ fun v h1 t1 g1 ⟨_, e1⟩ => y A hA _ (g.trans g1) _ _ fun v2 h2 t2 g2 ⟨_, e2⟩ => by
    subst e1; subst e2; exact add_int (q _ _ _ (g1.trans g2) ⟨_, rfl⟩))
theorem Ev.sub {l r : Expr} {pos : Pos} {a b : Int} (x : Ev prog w k env h l (.int a)) (y : Ev prog w k env h r (.int b)) : Ev prog w k env h (.BinOp l .Sub r pos) (.int (a - b)) :=
  fun A hA s g Q E q => wpAny_BinOp (x A hA s g _ _ fun v h1 t1 g1 ⟨_, e1⟩ => y A hA _ (g.trans g1) _ _ fun v2 h2 t2 g2 ⟨_, e2⟩ => by
    subst e1; subst e2; exact sub_int (q _ _ _ (g1.trans g2) ⟨_, rfl⟩))
theorem Ev.mul {l r : Expr} {pos : Pos} {a b : Int} (x : Ev prog w k env h l (.int a)) (y : Ev prog w k env h r (.int b)) (hm : IntMulOk a b) : Ev prog w k env h (.BinOp l .Mult r pos) (.int (a * b)) :=
  fun A hA s g Q E q => wpAny_BinOp (x A hA s g _ _ fun v h1 t1 g1 ⟨_, e1⟩ => y A hA _ (g.trans g1) _ _ fun v2 h2 t2 g2 ⟨_, e2⟩ => by
    subst e1; subst e2; exact PyProof.Rows.mul_int (q _ _ _ (g1.trans g2) ⟨_, rfl⟩) hm)
theorem Ev.mod {l r : Expr} {pos : Pos} {a b : Int} (x : Ev prog w k env h l (.int a)) (y : Ev prog w k env h r (.int b)) (hb : b ≠ 0) : Ev prog w k env h (.BinOp l .Mod r pos) (.int (a.fmod b)) :=
  fun A hA s g Q E q => wpAny_BinOp (x A hA s g _ _ fun v h1 t1 g1 ⟨_, e1⟩ => y A hA _ (g.trans g1) _ _ fun v2 h2 t2 g2 ⟨_, e2⟩ => by
    subst e1; subst e2; exact mod_int' hb (q _ _ _ (g1.trans g2) ⟨_, rfl⟩))
theorem Ev.div {l r : Expr} {pos : Pos} {a b : Int} (x : Ev prog w k env h l (.int a)) (y : Ev prog w k env h r (.int b)) (hb : b ≠ 0) (hp : Builtin.divisionGoesByPylong a b = false) : Ev prog w k env h (.BinOp l .FloorDiv r pos) (.int (a.fdiv b)) :=
  fun A hA s g Q E q => wpAny_BinOp (x A hA s g _ _ fun v h1 t1 g1 ⟨_, e1⟩ => y A hA _ (g.trans g1) _ _ fun v2 h2 t2 g2 ⟨_, e2⟩ => by
    subst e1; subst e2; exact PyProof.Rows.floordiv_int hb (q _ _ _ (g1.trans g2) ⟨_, rfl⟩) (.inl hp))
end
end Mine

set_option Elab.async false
set_option maxRecDepth 100000
set_option linter.unusedVariables false
namespace Mine
open PySem PySem.W PyProof.Rows PySem.Calls

section
variable {prog : Program} {w : World} {k : Nat} {env : Env} {h h' : Heap} {β : Heap} {m : List (Str × V)}

/-! int comparisons, as values and as tests -/
theorem Ev.cmp {l r : Expr} {op : CmpOp} {pos : Pos} {a b : Int} {c : Bool} (x : Ev prog w k env h l (.int a)) (y : Ev prog w k env h r (.int b))
    (hc : ∀ (A : Around) (E : Value → Shared → Prop) (s : Shared) (t u : Tok) (Q : Value → Shared → Prop), Q (.bool c) s → wpAny (model prog w) A (compareOp op (.int a t) (.int b u)) Q E s)
    (hm : behindInMarks op r = false := by with_unfolding_all rfl) : Ev prog w k env h (.Compare l [op] [r] pos) (.bool c) :=
  fun A hA s g Q E q => wpAny_Compare1 (x A hA s g _ _ fun v h1 t1 g1 ⟨_, e1⟩ => y A hA _ (g.trans g1) _ _ fun v2 h2 t2 g2 ⟨_, e2⟩ => by
    subst e1; subst e2; exact hc _ _ _ _ _ _ (q _ h2 t2 (g1.trans g2) rfl)) hm
theorem Tr.cmp {l r : Expr} {op : CmpOp} {pos : Pos} {a b : Int} {c : Bool} (x : Ev prog w k env h l (.int a)) (y : Ev prog w k env h r (.int b))
    (hc : ∀ (A : Around) (E : Value → Shared → Prop) (s : Shared) (t u : Tok) (Q : Value → Shared → Prop), Q (.bool c) s → wpAny (model prog w) A (compareOp op (.int a t) (.int b u)) Q E s)
    (hm : behindInMarks op r = false := by with_unfolding_all rfl) : Tr prog w k env h (.Compare l [op] [r] pos) c :=
  fun A hA s g Q E q => wpAny_isTrue_Compare1 (x A hA s g _ _ fun v h1 t1 g1 ⟨_, e1⟩ => y A hA _ (g.trans g1) _ _ fun v2 h2 t2 g2 ⟨_, e2⟩ => by
    subst e1; subst e2; exact hc _ _ _ _ _ _ (wpAny_truthy_bool (q h2 t2 (g1.trans g2)))) hm
theorem Tr.cmp2 {l r r' : Expr} {op op' : CmpOp} {pos : Pos} {a b b' : Int} {c c' : Bool} (x : Ev prog w k env h l (.int a)) (y : Ev prog w k env h r (.int b)) (z : Ev prog w k env h r' (.int b'))
    (hc : ∀ (A : Around) (E : Value → Shared → Prop) (s : Shared) (t u : Tok) (Q : Value → Shared → Prop), Q (.bool c) s → wpAny (model prog w) A (compareOp op (.int a t) (.int b u)) Q E s)
    (hc' : ∀ (A : Around) (E : Value → Shared → Prop) (s : Shared) (t u : Tok) (Q : Value → Shared → Prop), Q (.bool c') s → wpAny (model prog w) A (compareOp op' (.int b t) (.int b' u)) Q E s)
    (hm : lastMarks [op, op'] [r, r'] = false := by with_unfolding_all rfl) : Tr prog w k env h (.Compare l [op, op'] [r, r'] pos) (c && c') :=
  fun A hA s g Q E q => by
    refine isTrue_chain (x A hA s g _ _ fun v h1 t1 g1 e1 => ?_) hm
    obtain ⟨_, e1⟩ := e1
    subst e1
    refine test_link (y A hA _ (g.trans g1) _ _ fun v2 h2 t2 g2 e2 => ?_)
    obtain ⟨_, e2⟩ := e2
    subst e2
    refine hc _ _ _ _ _ _ (wpAny_truthy_bool ?_)
    cases c with
    | false => exact q h2 t2 (g1.trans g2)
    | true =>
      refine test_last (z A hA _ ((g.trans g1).trans g2) _ _ fun v3 h3 t3 g3 e3 => ?_)
      obtain ⟨_, e3⟩ := e3
      subst e3
      exact hc' _ _ _ _ _ _ (wpAny_truthy_bool (q h3 t3 ((g1.trans g2).trans g3)))

section
variable {a b : Int} (A : Around) (E : Value → Shared → Prop) (s : Shared) (t u : Tok) (Q : Value → Shared → Prop)
theorem c_eq (q : Q (.bool (a == b)) s) : wpAny (model prog w) A (compareOp .Eq (.int a t) (.int b u)) Q E s := PyProof.Rows.eq_int q
theorem c_ne (q : Q (.bool (a != b)) s) : wpAny (model prog w) A (compareOp .NotEq (.int a t) (.int b u)) Q E s := PyProof.Rows.ne_int q
theorem c_lt (q : Q (.bool (decide (a < b))) s) : wpAny (model prog w) A (compareOp .Lt (.int a t) (.int b u)) Q E s := PyProof.Rows.lt_int q
theorem c_le (q : Q (.bool (decide (a ≤ b))) s) : wpAny (model prog w) A (compareOp .LtE (.int a t) (.int b u)) Q E s := PyProof.Rows.le_int q
theorem c_gt (q : Q (.bool (decide (b < a))) s) : wpAny (model prog w) A (compareOp .Gt (.int a t) (.int b u)) Q E s := PyProof.Rows.gt_int q
theorem c_ge (q : Q (.bool (decide (b ≤ a))) s) : wpAny (model prog w) A (compareOp .GtE (.int a t) (.int b u)) Q E s := PyProof.Rows.ge_int q
end

/-! tests -/
theorem Tr.plain {e : Expr} {b : Bool} (x : Ev prog w k env h e (.bool b))
    (he : ∀ whole, isTrue e env whole = (do let v ← whole; standAt e.pos; holding [v] (truthy v)) := by intro _; rfl) : Tr prog w k env h e b :=
  fun A hA s g Q E q => isTrue_plain (x A hA s g _ _ fun v h1 t1 g1 e => by subst e; exact wpAny_truthy_bool (q h1 t1 g1)) (he _)
theorem Tr.and_nil {pos : Pos} : Tr prog w k env h (.BoolOp .And [] pos) true := fun A hA s g Q E q => isTrue_and_nil (q s.heap s.toks .refl)
theorem Tr.or_nil {pos : Pos} : Tr prog w k env h (.BoolOp .Or [] pos) false := fun A hA s g Q E q => isTrue_or_nil (q s.heap s.toks .refl)
theorem Tr.and {e : Expr} {rest : List Expr} {pos : Pos} {b c : Bool} (x : Tr prog w k env h e b) (y : b = true → Tr prog w k env h (.BoolOp .And rest pos) c) :
    Tr prog w k env h (.BoolOp .And (e :: rest) pos) (b && c) :=
  fun A hA s g Q E q => isTrue_and (x A hA s g _ _ fun h1 t1 g1 => by
    cases b with
    | false => exact q h1 t1 g1
    | true => exact y rfl A hA _ (g.trans g1) _ _ fun h2 t2 g2 => q h2 t2 (g1.trans g2))
theorem Tr.or {e : Expr} {rest : List Expr} {pos : Pos} {b c : Bool} (x : Tr prog w k env h e b) (y : b = false → Tr prog w k env h (.BoolOp .Or rest pos) c) :
    Tr prog w k env h (.BoolOp .Or (e :: rest) pos) (b || c) :=
  fun A hA s g Q E q => isTrue_or (x A hA s g _ _ fun h1 t1 g1 => by
    cases b with
    | true => exact q h1 t1 g1
    | false => exact y rfl A hA _ (g.trans g1) _ _ fun h2 t2 g2 => q h2 t2 (g1.trans g2))
theorem Tr.and2 {e e' : Expr} {pos : Pos} {b c : Bool} (x : Tr prog w k env h e b) (y : b = true → Tr prog w k env h e' c) : Tr prog w k env h (.BoolOp .And [e, e'] pos) (b && c) := by
  have := Tr.and (pos := pos) x fun hb => Tr.and (y hb) fun _ => Tr.and_nil (pos := pos)
  rwa [Bool.and_true] at this
theorem Tr.or2 {e e' : Expr} {pos : Pos} {b c : Bool} (x : Tr prog w k env h e b) (y : b = false → Tr prog w k env h e' c) : Tr prog w k env h (.BoolOp .Or [e, e'] pos) (b || c) := by
  have := Tr.or (pos := pos) x fun hb => Tr.or (y hb) fun _ => Tr.or_nil (pos := pos)
  rwa [Bool.or_false] at this

/-! and, or as values of bools -/
theorem Ev.and2 {e e' : Expr} {pos : Pos} {b c : Bool} (x : Ev prog w k env h e (.bool b)) (y : b = true → Ev prog w k env h e' (.bool c)) : Ev prog w k env h (.BoolOp .And [e, e'] pos) (.bool (b && c)) :=
  fun A hA s g Q E q => wpAny_And2 (x A hA s g _ _ fun v h1 t1 g1 e1 => by
    subst e1
    refine wpAny_truthy_bool ?_
    cases b with
    | false => exact q _ h1 t1 g1 rfl
    | true => exact y rfl A hA _ (g.trans g1) _ _ fun v h2 t2 g2 e => q v h2 t2 (g1.trans g2) e)
theorem Ev.or2 {e e' : Expr} {pos : Pos} {b c : Bool} (x : Ev prog w k env h e (.bool b)) (y : b = false → Ev prog w k env h e' (.bool c)) : Ev prog w k env h (.BoolOp .Or [e, e'] pos) (.bool (b || c)) :=
  fun A hA s g Q E q => wpAny_Or2 (x A hA s g _ _ fun v h1 t1 g1 e1 => by
    subst e1
    refine wpAny_truthy_bool ?_
    cases b with
    | true => exact q _ h1 t1 g1 rfl
    | false => exact y rfl A hA _ (g.trans g1) _ _ fun v h2 t2 g2 e => q v h2 t2 (g1.trans g2) e)
theorem Gr.ifExp {t a o : Expr} {pos : Pos} {b : Bool} {P : Value → Heap → Heap → Prop} (x : Tr prog w k env h t b)
    (ya : b = true → Gr prog w k env h a fun v _ h' => ∀ h₀, P v h₀ h') (yo : b = false → Gr prog w k env h o fun v _ h' => ∀ h₀, P v h₀ h') : Gr prog w k env h (.IfExp t a o pos) P :=
  fun A hA s g Q E q => wpAny_IfExp (x A hA s g _ _ fun h1 t1 g1 => by
    cases b with
    | true => exact ya rfl A hA _ (g.trans g1) _ _ fun v h2 t2 g2 e => q v h2 t2 (g1.trans g2) (e _)
    | false => exact yo rfl A hA _ (g.trans g1) _ _ fun v h2 t2 g2 e => q v h2 t2 (g1.trans g2) (e _))
theorem Ev.ifExp {t a o : Expr} {pos : Pos} {b : Bool} {u u' : V} (x : Tr prog w k env h t b)
    (ya : b = true → Ev prog w k env h a u) (yo : b = false → Ev prog w k env h o u') : Ev prog w k env h (.IfExp t a o pos) (if b then u else u') :=
  Gr.ifExp x (fun hb => (ya hb).mono fun v _ h' e _ => by rw [if_pos hb]; exact e) (fun hb => (yo hb).mono fun v _ h' e _ => by rw [if_neg (by rw [hb]; decide)]; exact e)

/-! items -/
theorem paired_get {α β : Type} {F : α → β → Prop} {l : List α} {l' : List β} (p : Paired F l l') : ∀ {i : Nat} {u : β}, l'[i]? = some u → ∃ v, l[i]? = some v ∧ F v u := by
  induction p with
  | nil => intro i u e; cases e
  | cons f r ih =>
    intro i u e
    cases i with
    | zero => cases e; exact ⟨_, rfl, f⟩
    | succ i => exact ih e
theorem Ev.itemI {e i : Expr} {pos : Pos} {us : List V} {j : Int} {u : V} (x : EvI prog w k env h e us) (y : Ev prog w k env h i (.int j)) (h0 : 0 ≤ j) (hu : us[j.toNat]? = some u) (hf : j < 2 ^ 63)
    (hs : ∀ o t, subscripted i false o (.int j t) = operate [o, .int j t] (getItem o (.int j t)) := by intro _ _; with_unfolding_all rfl) : Ev prog w k env h (.Subscript e i pos) u :=
  fun A hA s g Q E q => Subscript_ (x A hA s g _ _ fun v h1 t1 g1 ⟨l, e1, xl⟩ => y A hA _ (g.trans g1) _ _ fun v2 h2 t2 g2 ⟨_, e2⟩ => by
    subst e1; subst e2
    obtain ⟨vs, il, p⟩ := g2.its xl
    obtain ⟨v, hv, r⟩ := paired_get p hu
    exact tail_any il.typeIs slot_list_getitem.lookup (wpAny_getItem_list il h0 hf (by simpa using hv) (q v h2 t2 (g1.trans g2) r)) (hs _ _))
theorem Ev.item {e i : Expr} {pos : Pos} {us : List V} {j : Int} {u : V} (x : EvA prog w k env h e us) (y : Ev prog w k env h i (.int j)) (h0 : 0 ≤ j) (hu : us[j.toNat]? = some u) (hf : j < 2 ^ 63)
    (hs : ∀ o t, subscripted i false o (.int j t) = operate [o, .int j t] (getItem o (.int j t)) := by intro _ _; with_unfolding_all rfl) : Ev prog w k env h (.Subscript e i pos) u := Ev.itemI x.i y h0 hu hf hs
/-- a triple's part at a written place -/
theorem Ev.part {e : Expr} {pos ipos : Pos} {kk : Nat} {g0 c : Int} {b : Bool} {j : Nat} {u : V} (x : Ev prog w k env h e (.tri g0 c b))
    (hj : j < 3) (hu : u = ([V.int g0, .int c, .bool b] : List V).getD j .none) : Ev prog w k env h (.Subscript e (.Constant (.int j) kk ipos) pos) u :=
  fun A hA s g Q E q => Subscript_ (x A hA s g _ _ fun v h1 t1 g1 ⟨a, t2, t3, e1, it⟩ => by
    subst e1
    refine wpAny_Constant_int ?_
    have key : ∀ (xx : Value), ([.int g0 t2, .int c t3, .bool b] : List Value)[j]? = some xx → Rep h1 xx u → wpAny (model prog w) A (subscriptTail e (.Constant (.int j) kk ipos) (.ref a) (.int j t1)) Q E ({ s with heap := h1, toks := t1 + 1 } : Shared) := fun xx hx r =>
      item_tupleT (l := [.int g0 t2, .int c t3, .bool b]) it (by omega) (by omega) (j := j) (by unfold seqIndex?; simp; omega) hx (q xx h1 _ g1 r) (by with_unfolding_all rfl)
    match j, hj, hu with
    | 0, _, hu => exact key _ rfl (by rw [hu]; exact ⟨_, rfl⟩)
    | 1, _, hu => exact key _ rfl (by rw [hu]; exact ⟨_, rfl⟩)
    | 2, _, hu => exact key _ rfl (by rw [hu]; rfl))
end
end Mine

set_option Elab.async false
set_option maxRecDepth 100000
set_option linter.unusedVariables false
set_option autoImplicit false
namespace Mine
open PySem PySem.W PyProof.Rows PySem.Calls PySem.SeqAt

theorem paired_length {α β : Type} {F : α → β → Prop} {l : List α} {l' : List β} (p : Paired F l l') : l.length = l'.length := by
  induction p with
  | nil => rfl
  | cons _ _ ih => simp [ih]
theorem paired_append {α β : Type} {F : α → β → Prop} {l₁ : List α} {l₁' : List β} {l₂ : List α} {l₂' : List β} (p : Paired F l₁ l₁') (q : Paired F l₂ l₂') : Paired F (l₁ ++ l₂) (l₁' ++ l₂') := by
  induction p with
  | nil => exact q
  | cons f _ ih => exact .cons f ih
theorem paired_drop {α β : Type} {F : α → β → Prop} {l : List α} {l' : List β} (p : Paired F l l') : ∀ n, Paired F (l.drop n) (l'.drop n) := by
  induction p with
  | nil => intro n; simp; exact .nil
  | cons f r ih => intro n; cases n with
    | zero => exact .cons f r
    | succ n => exact ih n
theorem paired_take {α β : Type} {F : α → β → Prop} {l : List α} {l' : List β} (p : Paired F l l') : ∀ n, Paired F (l.take n) (l'.take n) := by
  induction p with
  | nil => intro n; simp; exact .nil
  | cons f r ih => intro n; cases n with
    | zero => exact .nil
    | succ n => exact .cons f (ih n)
theorem paired_reverse {α β : Type} {F : α → β → Prop} {l : List α} {l' : List β} (p : Paired F l l') : Paired F l.reverse l'.reverse := by
  induction p with
  | nil => exact .nil
  | cons f r ih => rw [List.reverse_cons, List.reverse_cons]; exact paired_append ih (.cons f .nil)

/-- the ends of a slice -/
def lowOf (v : Option Int) (n : Nat) : Nat := v.elim 0 (clipAt n)
def highOf (v : Option Int) (n : Nat) : Nat := v.elim n (clipAt n)
theorem clip_eq {n : Nat} {x : Int} : clipAt n x = if x < 0 then n - (-x).toNat else min x.toNat n := by
  unfold clipAt
  split <;> omega
def pickL (l : List Value) (lo hi : Option Int) : List Value := (l.drop (lowOf lo l.length)).take (highOf hi l.length - lowOf lo l.length)
theorem pickL_eq (xs : Array Value) (lo hi : Option Int) : slicePick xs lo hi none = (pickL xs.toList lo hi).toArray := slicePick_plain xs lo hi
theorem pick_back (xs : Array Value) : slicePick xs none none (some (-1)) = xs.toList.reverse.toArray := by
  have hr : sliceRange ((xs.size : Int) - 1) (-1) (-1) = (List.range xs.size).reverse := by
    rw [List.range_eq_range', List.reverse_range']
    unfold sliceRange
    rw [if_neg (by decide)]
    have hc : (if (xs.size : Int) - 1 > -1 then ((xs.size : Int) - 1 - -1 - -1 - 1) / (- -1) else 0) = (xs.size : Int) := by
      split
      · show ((xs.size : Int) - 1 - -1 - -1 - 1) / 1 = _
        rw [Int.ediv_one]
        omega
      · omega
    rw [hc]
    refine List.map_congr_left fun k hk => ?_
    have := List.mem_range.mp hk
    omega
  have ha := pick_run xs 0 xs.size
  simp only [Nat.zero_add, List.map_id_fun', id, List.drop_zero] at ha
  show ((sliceRange ((xs.size : Int) - 1) (-1) (-1)).filterMap (xs[·]?)).toArray = _
  rw [hr, List.filterMap_reverse]
  congr 2
  rw [ha, List.take_of_length_le (by simp)]
def cut (us : List V) (lo hi : Option Int) : List V := (us.drop (lowOf lo us.length)).take (highOf hi us.length - lowOf lo us.length)

theorem get_new {h : Heap} : h.get? h.objs.size = none := Heap.get?_none_of_le (Nat.le_refl _)
theorem Gw.push {L : Addr} {h : Heap} (o : Obj) : Gw L h (h.push o) := Gw.ofSub fun b o' e => Heap.get?_push_of_some _ e
theorem lst_new {h : Heap} {vs : List Value} {us : List V} (p : Paired (Rep h) vs us) : Lst (h.push { cls := .type "list", data := .seq vs.toArray }) h.objs.size us :=
  ⟨vs, 0, Heap.get?_push_size _ rfl, paired_mono (fun _ _ => (Gw.push (L := 0) _).rep) p⟩

section
variable {prog : Program} {w : World} {k : Nat} {env : Env} {h h' : Heap} {β : Heap} {m : List (Str × V)}

/-! displays -/
def Ar (prog : Program) (w : World) (k : Nat) (env : Env) (h : Heap) (es : List Expr) (us : List V) : Prop :=
  ∀ A, Lv k A → ∀ s : Shared, Gw env.locals h s.heap → ∀ (pos : Pos) (Q : List Value → Shared → Prop) (E : Value → Shared → Prop),
    (∀ vs h' t, Gw env.locals s.heap h' → Paired (Rep h') vs us → Q vs { s with heap := h', toks := t }) → wpAny (model prog w) A (spliced (backTo pos (starEach es env))) Q E s
theorem Ar.nil : Ar prog w k env h [] [] := fun A hA s g pos Q E q => spliced_nil (q [] s.heap s.toks .refl .nil)
theorem Ar.cons {e : Expr} {es : List Expr} {u : V} {us : List V} (x : Ev prog w k env h e u) (y : Ar prog w k env h es us)
    (he : starEach (e :: es) env = (false, eval e env) :: starEach es env := by rfl) : Ar prog w k env h (e :: es) (u :: us) :=
  fun A hA s g pos Q E q => by
    rw [he]
    exact spliced_cons (x A hA s g _ _ fun v h1 t1 g1 e1 => y A hA _ (g.trans g1) pos _ _ fun vs h2 t2 g2 p => q _ h2 t2 (g1.trans g2) (.cons (g2.rep e1) p))
theorem Ar.gw {es : List Expr} {us : List V} (x : Ar prog w k env h es us) (g : Gw env.locals h h') : Ar prog w k env h' es us :=
  fun A hA s g' pos Q E q => x A hA s (g.trans g') pos Q E q

theorem EvL.disp {es : List Expr} {us : List V} {pos : Pos} (x : Ar prog w k env h es us) (hz : us.length ≤ 1000) : EvL prog w k env h (.List es pos) us :=
  fun A hA s g Q E q => List_ (x A hA s g _ _ _ fun vs h1 t1 g1 p => by
    exact wpAny_newObj_type (q _ _ _ (g1.trans (Gw.push _)) ⟨_, rfl, lst_new p, g1.fresh get_new⟩) (by show vs.toArray.size ≤ sizeLine; rw [List.size_toArray, paired_length p, sizeLine_eq]; omega))
theorem Ev.tri {a b c : Expr} {kk : Nat} {pos : Pos} {x y : Int} {z : Bool} (p : Ar prog w k env h [a, b, c] [.int x, .int y, .bool z]) : Ev prog w k env h (.Tuple [a, b, c] kk pos) (.tri x y z) :=
  fun A hA s g Q E q => Tuple_ (p A hA s g _ _ _ fun vs h1 t1 g1 p => by
    cases p with
    | cons e1 p => cases p with
      | cons e2 p => cases p with
        | cons e3 p =>
          cases p
          obtain ⟨ta, e1⟩ := e1
          obtain ⟨tb, e2⟩ := e2
          cases e3
          subst e1 e2
          exact wpAny_newObj_type (q _ _ _ (g1.trans (Gw.push _)) ⟨h1.objs.size, ta, tb, rfl, _, Heap.get?_push_size _ rfl, rfl, 0, rfl⟩) (by show ([Value.int x ta, .int y tb, .bool z].toArray).size ≤ sizeLine; rw [sizeLine_eq]; simp))

/-! list + list -/
theorem EvL.add {a b : Expr} {pos : Pos} {us vs : List V} (x : EvA prog w k env h a us) (y : EvA prog w k env h b vs) (hz : us.length + vs.length ≤ 1000) : EvL prog w k env h (.BinOp a .Add b pos) (us ++ vs) :=
  fun A hA s g Q E q => wpAny_BinOp (x A hA s g _ _ fun v h1 t1 g1 ⟨l, e1, xl⟩ => y A hA _ (g.trans g1) _ _ fun v2 h2 t2 g2 ⟨l2, e2, yl⟩ => by
    subst e1; subst e2
    obtain ⟨ws, n, il, p⟩ := g2.lst xl
    obtain ⟨ws2, n2, il2, p2⟩ := yl
    have e := paired_length p
    have e' := paired_length p2
    refine P.add_list (n := n) (n2 := n2) il il2 (q _ _ _ ((g1.trans g2).trans (Gw.push _)) ⟨_, rfl, ?_, (g1.trans g2).fresh get_new⟩) (by rw [List.size_toArray, List.size_toArray, sizeLine_eq]; omega)
    have := lst_new (paired_append p p2)
    rwa [show (ws ++ ws2).toArray = ws.toArray ++ ws2.toArray by simp] at this)

/-! slices -/
theorem slice_ev {e : Expr} {lo hi : Option Expr} {pos spos : Pos} {us : List V} {vl vu : Option Int} (x : EvA prog w k env h e us)
    (hl : ∀ A, Lv k A → ∀ s : Shared, Gw env.locals h s.heap → ∀ (Q : Value → Shared → Prop) (E : Value → Shared → Prop), (∀ v h' t, Gw env.locals s.heap h' → IsPart v vl → Q v { s with heap := h', toks := t }) → wpAny (model prog w) A (evalPart lo env) Q E s)
    (hu : ∀ A, Lv k A → ∀ s : Shared, Gw env.locals h s.heap → ∀ (Q : Value → Shared → Prop) (E : Value → Shared → Prop), (∀ v h' t, Gw env.locals s.heap h' → IsPart v vu → Q v { s with heap := h', toks := t }) → wpAny (model prog w) A (evalPart hi env) Q E s)
    (hz : us.length ≤ 1000) : EvL prog w k env h (.Subscript e (.Slice lo hi none spos) pos) (cut us vl vu) :=
  fun A hA s g Q E q => Subscript_ (x A hA s g _ _ fun v h1 t1 g1 ⟨l, e1, xl⟩ => by
    subst e1
    show wpAny _ _ (evalPart lo env >>= fun l => holding [l] (evalPart hi env) >>= fun u => holding [l, u] (evalPart none env) >>= fun st => newFields "slice" [l, u, st]) _ _ _
    refine wpAny_bind (hl A hA _ (g.trans g1) _ _ fun v2 h2 t2 g2 p2 => wpAny_bind (wpAny_holding (hu A hA _ ((g.trans g1).trans g2) _ _ fun v3 h3 t3 g3 p3 => wpAny_bind (wpAny_holding (wpAny_pure ?_)))))
    refine wpAny_newObj_type (?_) (by show (#[v2, v3, Value.none].size ≤ _); rw [sizeLine_eq]; simp)
    obtain ⟨ws, n, il, p⟩ := (g2.trans g3).lst xl
    have e := paired_length p
    have il' := (Gw.push (L := env.locals) (h := h3) ({ cls := .type "slice", data := .fields #[v2, v3, .none] } : Obj)).obj (notDict_of rfl) il
    have il2 : (h3.push ({ cls := .type "slice", data := .fields #[v2, v3, .none] } : Obj)).IsList l ws.toArray := ⟨_, il', rfl, n, rfl⟩
    refine tail_any (s := { s with heap := h3.push ({ cls := .type "slice", data := .fields #[v2, v3, .none] } : Obj), toks := t3 }) il2.typeIs list_getitem_lookup
      (wpAny_getItem_list_slice il2 (Heap.IsSliceOf.new ..) p2 p3 .none (by simp) (q _ _ t3 (((g1.trans g2).trans g3).trans ((Gw.push _).trans (Gw.push _))) ⟨_, rfl, ?_, ?_⟩) (by rw [List.size_toArray, sizeLine_eq]; omega)) rfl
    · have hp : Paired (Rep h3) (pickL ws vl vu) (cut us vl vu) := by
        unfold pickL cut
        rw [e]
        exact paired_take (paired_drop p _) _
      rw [pickL_eq]
      exact lst_new (paired_mono (fun _ _ => (Gw.push (L := 0) _).rep) hp)
    · exact ((g1.trans g2).trans g3).fresh ((Gw.push (L := env.locals) _).fresh get_new))

theorem part_none {env : Env} {h : Heap} : ∀ A, Lv k A → ∀ s : Shared, Gw env.locals h s.heap → ∀ (Q : Value → Shared → Prop) (E : Value → Shared → Prop), (∀ v h' t, Gw env.locals s.heap h' → IsPart v none → Q v { s with heap := h', toks := t }) → wpAny (model prog w) A (evalPart none env) Q E s :=
  fun A hA s g Q E q => wpAny_pure (q _ s.heap s.toks .refl .none)
theorem part_some {e : Expr} {i : Int} (x : Ev prog w k env h e (.int i)) : ∀ A, Lv k A → ∀ s : Shared, Gw env.locals h s.heap → ∀ (Q : Value → Shared → Prop) (E : Value → Shared → Prop), (∀ v h' t, Gw env.locals s.heap h' → IsPart v (some i) → Q v { s with heap := h', toks := t }) → wpAny (model prog w) A (evalPart (some e) env) Q E s :=
  fun A hA s g Q E q => x A hA s g _ _ fun v h1 t1 g1 ⟨_, e1⟩ => by subst e1; exact q _ h1 t1 g1 (.int _ _)
theorem EvL.sl11 {e a b : Expr} {pos spos : Pos} {us : List V} {i j : Int} (x : EvA prog w k env h e us) (y : Ev prog w k env h a (.int i)) (z : Ev prog w k env h b (.int j)) (hz : us.length ≤ 1000) :
    EvL prog w k env h (.Subscript e (.Slice (some a) (some b) none spos) pos) (cut us (some i) (some j)) := slice_ev x (part_some y) (part_some z) hz
theorem EvL.sl01 {e b : Expr} {pos spos : Pos} {us : List V} {j : Int} (x : EvA prog w k env h e us) (z : Ev prog w k env h b (.int j)) (hz : us.length ≤ 1000) :
    EvL prog w k env h (.Subscript e (.Slice none (some b) none spos) pos) (cut us none (some j)) := slice_ev x part_none (part_some z) hz
theorem EvL.sl10 {e a : Expr} {pos spos : Pos} {us : List V} {i : Int} (x : EvA prog w k env h e us) (y : Ev prog w k env h a (.int i)) (hz : us.length ≤ 1000) :
    EvL prog w k env h (.Subscript e (.Slice (some a) none none spos) pos) (cut us (some i) none) := slice_ev x (part_some y) part_none hz

theorem Ev.neg {e : Expr} {pos : Pos} {i : Int} (x : Ev prog w k env h e (.int i)) : Ev prog w k env h (.UnaryOp .USub e pos) (.int (-i)) :=
  fun A hA s g Q E q => wpAny_UnaryOp (x A hA s g _ _ fun v h1 t1 g1 ⟨_, e1⟩ => by subst e1; exact neg_int (q _ _ _ g1 ⟨_, rfl⟩))

/-- row[::-1] -/
theorem EvL.rev {e : Expr} {kk : Nat} {p1 p2 spos pos : Pos} {us : List V} (x : EvA prog w k env h e us) (hz : us.length ≤ 1000) :
    EvL prog w k env h (.Subscript e (.Slice none none (some (.UnaryOp .USub (.Constant (.int 1) kk p1) p2)) spos) pos) us.reverse :=
  fun A hA s g Q E q => Subscript_ (x A hA s g _ _ fun v h1 t1 g1 ⟨l, e1, xl⟩ => by
    subst e1
    show wpAny _ _ (evalPart none env >>= fun l => holding [l] (evalPart none env) >>= fun u => holding [l, u] (eval (.UnaryOp .USub (.Constant (.int 1) kk p1) p2) env) >>= fun st => newFields "slice" [l, u, st]) _ _ _
    refine wpAny_bind (wpAny_pure (wpAny_bind (wpAny_holding (wpAny_pure (wpAny_bind (wpAny_holding ?_))))))
    refine Ev.neg (k := k) (h := h1) Ev.int A hA _ .refl _ _ fun v3 h3 t3 g3 p3 => ?_
    obtain ⟨t9, rfl⟩ := p3
    refine wpAny_newObj_type (?_) (by show (#[Value.none, Value.none, Value.int (-1) t9].size ≤ _); rw [sizeLine_eq]; simp)
    obtain ⟨ws, n, il, p⟩ := g3.lst xl
    have e := paired_length p
    have il' := (Gw.push (L := env.locals) (h := h3) ({ cls := .type "slice", data := .fields #[.none, .none, .int (-1) t9] } : Obj)).obj (notDict_of rfl) il
    have il2 : (h3.push ({ cls := .type "slice", data := .fields #[.none, .none, .int (-1) t9] } : Obj)).IsList l ws.toArray := ⟨_, il', rfl, n, rfl⟩
    refine tail_any (s := { s with heap := h3.push ({ cls := .type "slice", data := .fields #[.none, .none, .int (-1) t9] } : Obj), toks := t3 }) (ops := [.ref l, .ref h3.objs.size]) il2.typeIs list_getitem_lookup
      (wpAny_getItem_list_slice il2 (Heap.IsSliceOf.new ..) .none .none (.int (-1) t9) (by simp) (q _ _ t3 ((g1.trans g3).trans ((Gw.push _).trans (Gw.push _))) ⟨_, rfl, ?_, ?_⟩) (by rw [List.size_toArray, sizeLine_eq]; omega)) rfl
    · rw [pick_back]
      exact lst_new (paired_mono (fun _ _ => (Gw.push (L := 0) _).rep) (paired_reverse p))
    · exact (g1.trans g3).fresh ((Gw.push (L := env.locals) _).fresh get_new))

/-- left[-1] -/
theorem Ev.last {e : Expr} {kk : Nat} {p1 p2 pos : Pos} {us : List V} {u : V} (x : EvA prog w k env h e us) (hu : us.getLast? = some u) : Ev prog w k env h (.Subscript e (.UnaryOp .USub (.Constant (.int 1) kk p1) p2) pos) u :=
  fun A hA s g Q E q => Subscript_ (x A hA s g _ _ fun v h1 t1 g1 ⟨l, e1, xl⟩ => Ev.neg (k := k) (h := h1) Ev.int A hA _ .refl _ _ fun v2 h2 t2 g2 ⟨t9, e2⟩ => by
    subst e1; subst e2
    obtain ⟨vs, n, il, p⟩ := g2.lst xl
    have e := paired_length p
    have hne : 0 < us.length := by cases us with | nil => cases hu | cons _ _ => simp
    rw [List.getLast?_eq_getElem?] at hu
    obtain ⟨v, hv, r⟩ := paired_get p hu
    have il2 : h2.IsList l vs.toArray := ⟨_, il, rfl, n, rfl⟩
    refine tail_any (ops := [.ref l, .int (-1) t9]) il2.typeIs slot_list_getitem.lookup (wpAny_getItem_list_neg il2 (by decide) (by rw [List.size_toArray]; omega) (by decide) (x := v) ?_ (q v h2 t2 (g1.trans g2) r)) rfl
    rw [List.size_toArray, List.getElem?_toArray, show (((-1 : Int) + (vs.length : Int)).toNat) = us.length - 1 by omega]
    exact hv)

/-- 10 ** 9 -/
theorem Ev.pow {l r : Expr} {pos : Pos} {a b : Int} (x : Ev prog w k env h l (.int a)) (y : Ev prog w k env h r (.int b)) (hn : 0 ≤ b) (hsz : (Builtin.Int.intBits a : Int) * b ≤ 2 ^ 27) : Ev prog w k env h (.BinOp l .Pow r pos) (.int (a ^ b.toNat)) :=
  fun A hA s g Q E q => wpAny_BinOp (x A hA s g _ _ fun v h1 t1 g1 ⟨_, e1⟩ => y A hA _ (g.trans g1) _ _ fun v2 h2 t2 g2 ⟨_, e2⟩ => by
    subst e1; subst e2; exact pow_int hn hsz (q _ _ _ (g1.trans g2) ⟨_, rfl⟩))

/-! equal lists -/
def V.flat : V → Prop
  | .int _ | .bool _ | .tri _ _ _ => True
  | _ => False
theorem eqAt_rep {A : Around} {s : Shared} {v v' : Value} {u : V} (hf : u.flat) (hu : A.units + 1 < cLine) (x : Rep s.heap v u) (y : Rep s.heap v' u) : EqAt A s v v' true := by
  cases u with
  | int i => obtain ⟨t, rfl⟩ := x; obtain ⟨t', rfl⟩ := y; have := EqAt.int_int (A := A) (s := s) i t i t'; rwa [beq_self_eq_true] at this
  | bool b => cases x; cases y; exact EqAt.same _
  | tri g c b =>
    obtain ⟨a, t1, t2, rfl, ia⟩ := x
    obtain ⟨a', t1', t2', rfl, ia'⟩ := y
    by_cases hne : a = a'
    · subst hne; exact EqAt.same _
    · refine EqAt.of_refs hne ?_
      have := RcAt.tuples (A := A) (s := s) (e := fun _ => true) ia ia' (by omega) (fun j h1 h2 => by
        match j, h1, h2 with
        | 0, _, _ => have := EqAt.int_int (A := A.in1) (s := s) g t1 g t1'; rwa [beq_self_eq_true] at this
        | 1, _, _ => have := EqAt.int_int (A := A.in1) (s := s) c t2 c t2'; rwa [beq_self_eq_true] at this
        | 2, _, _ => exact EqAt.same _
        | j + 3, h1, _ => exact absurd h1 (by simp))
      exact this
  | none => cases hf
  | str _ => cases hf
  | ref _ => cases hf
theorem paired_get' {α β : Type} {F : α → β → Prop} {l : List α} {l' : List β} (p : Paired F l l') : ∀ {i : Nat} {v : α}, l[i]? = some v → ∃ u, l'[i]? = some u ∧ F v u := by
  induction p with
  | nil => intro i u e; cases e
  | cons f r ih =>
    intro i u e
    cases i with
    | zero => cases e; exact ⟨_, rfl, f⟩
    | succ i => exact ih e
theorem eqAt_lists {A : Around} {s : Shared} {l l' : Addr} {us : List V} (hf : ∀ u ∈ us, u.flat) (hu : A.units + 2 < cLine) (x : Lst s.heap l us) (y : Lst s.heap l' us) :
    ∃ its its' : Array Value, s.heap.IsList l its ∧ s.heap.IsList l' its' ∧ its.size = its'.size ∧ ∀ j (h1 : j < its.size) (h2 : j < its'.size), EqAt A.in1 s its[j] its'[j] true := by
  obtain ⟨vs, i1, p1⟩ := x.isList
  obtain ⟨vs', i2, p2⟩ := y.isList
  refine ⟨_, _, i1, i2, by rw [List.size_toArray, List.size_toArray, paired_length p1, paired_length p2], fun j h1 h2 => ?_⟩
  rw [List.size_toArray] at h1 h2
  have e1 : vs[j]? = some vs[j] := List.getElem?_eq_getElem h1
  obtain ⟨u, hu1, r1⟩ := paired_get' p1 e1
  obtain ⟨v', hv', r2⟩ := paired_get p2 hu1
  have e2 : vs'[j]? = some vs'[j] := List.getElem?_eq_getElem h2
  rw [e2] at hv'
  cases hv'
  simp only [List.getElem_toArray]
  exact eqAt_rep (hf u (List.mem_of_getElem? hu1)) (by show A.units + 1 + 1 < cLine; omega) r1 r2
theorem all_true (n : Nat) : (List.range n).all (fun _ => true) = true := by simp
theorem Lv.line2 {k A} (x : Lv k A) : A.units + 2 < cLine := by have := x.units; unfold cLine; omega
theorem Ev.eqSame {a b : Expr} {pos : Pos} {us : List V} (x : EvA prog w k env h a us) (y : EvA prog w k env h b us) (hf : ∀ u ∈ us, u.flat) (hm : behindInMarks .Eq b = false := by with_unfolding_all rfl) :
    Ev prog w k env h (.Compare a [.Eq] [b] pos) (.bool true) :=
  fun A hA s g Q E q => wpAny_Compare1 (x A hA s g _ _ fun v h1 t1 g1 ⟨l, e1, xl⟩ => y A hA _ (g.trans g1) _ _ fun v2 h2 t2 g2 ⟨l2, e2, yl⟩ => by
    subst e1; subst e2
    obtain ⟨its, its', i1, i2, hsz, he⟩ := eqAt_lists (A := A) (s := { s with heap := h2, toks := t2 }) hf hA.line2 (g2.lst xl) yl
    refine eq_listAt i1 i2 hsz hA.line (e := fun _ => true) he ?_
    rw [all_true]
    exact q _ h2 t2 (g1.trans g2) rfl) hm
theorem Tr.neSame {a b : Expr} {pos : Pos} {us : List V} (x : EvA prog w k env h a us) (y : EvA prog w k env h b us) (hf : ∀ u ∈ us, u.flat) (hm : behindInMarks .NotEq b = false := by with_unfolding_all rfl) :
    Tr prog w k env h (.Compare a [.NotEq] [b] pos) false :=
  fun A hA s g Q E q => wpAny_isTrue_Compare1 (x A hA s g _ _ fun v h1 t1 g1 ⟨l, e1, xl⟩ => y A hA _ (g.trans g1) _ _ fun v2 h2 t2 g2 ⟨l2, e2, yl⟩ => by
    subst e1; subst e2
    obtain ⟨its, its', i1, i2, hsz, he⟩ := eqAt_lists (A := A) (s := { s with heap := h2, toks := t2 }) hf hA.line2 (g2.lst xl) yl
    refine SeqAt.RcNeAt.lists i1 i2 hsz hA.line (e := fun _ => true) he prog w E _ ?_
    rw [all_true]
    exact wpAny_truthy_bool (q h2 t2 (g1.trans g2))) hm
/-! a list against [] -/
theorem Tr.eqNil {a b : Expr} {pos : Pos} {us : List V} (x : EvA prog w k env h a us) (y : EvA prog w k env h b []) (hm : behindInMarks .Eq b = false := by with_unfolding_all rfl) :
    Tr prog w k env h (.Compare a [.Eq] [b] pos) us.isEmpty :=
  fun A hA s g Q E q => wpAny_isTrue_Compare1 (x A hA s g _ _ fun v h1 t1 g1 ⟨l, e1, xl⟩ => y A hA _ (g.trans g1) _ _ fun v2 h2 t2 g2 ⟨l2, e2, yl⟩ => by
    subst e1; subst e2
    cases us with
    | nil =>
      obtain ⟨its, its', i1, i2, hsz, he⟩ := eqAt_lists (A := A) (s := { s with heap := h2, toks := t2 }) (by simp) hA.line2 (g2.lst xl) yl
      refine eq_listAt i1 i2 hsz hA.line (e := fun _ => true) he ?_
      rw [all_true]
      exact wpAny_truthy_bool (q h2 t2 (g1.trans g2))
    | cons u us =>
      obtain ⟨vs, i1, p1⟩ := (g2.lst xl).isList
      obtain ⟨vs', i2, p2⟩ := yl.isList
      refine eq_list_lengthsAt i1 i2 ?_ hA.line (wpAny_truthy_bool (q h2 t2 (g1.trans g2)))
      rw [List.size_toArray, List.size_toArray, paired_length p1, paired_length p2]; simp) hm
theorem Tr.neNil {a b : Expr} {pos : Pos} {us : List V} (x : EvA prog w k env h a us) (y : EvA prog w k env h b []) (hm : behindInMarks .NotEq b = false := by with_unfolding_all rfl) :
    Tr prog w k env h (.Compare a [.NotEq] [b] pos) (!us.isEmpty) :=
  fun A hA s g Q E q => wpAny_isTrue_Compare1 (x A hA s g _ _ fun v h1 t1 g1 ⟨l, e1, xl⟩ => y A hA _ (g.trans g1) _ _ fun v2 h2 t2 g2 ⟨l2, e2, yl⟩ => by
    subst e1; subst e2
    cases us with
    | nil =>
      obtain ⟨its, its', i1, i2, hsz, he⟩ := eqAt_lists (A := A) (s := { s with heap := h2, toks := t2 }) (by simp) hA.line2 (g2.lst xl) yl
      refine SeqAt.RcNeAt.lists i1 i2 hsz hA.line (e := fun _ => true) he prog w E _ ?_
      rw [all_true]
      exact wpAny_truthy_bool (q h2 t2 (g1.trans g2))
    | cons u us =>
      obtain ⟨vs, i1, p1⟩ := (g2.lst xl).isList
      obtain ⟨vs', i2, p2⟩ := yl.isList
      refine SeqAt.RcNeAt.lists_lengths i1 i2 ?_ hA.line prog w E _ (wpAny_truthy_bool (q h2 t2 (g1.trans g2)))
      rw [List.size_toArray, List.size_toArray, paired_length p1, paired_length p2]; simp) hm
end
end Mine

set_option Elab.async false
set_option maxRecDepth 100000
set_option linter.unusedVariables false
set_option autoImplicit false
namespace Mine
open PySem PySem.W PyProof.Rows PySem.Calls PySem.SeqAt

/-! the library's rules over a ledger, for any heap with one frame -/
def allBut (L : Addr) (h : Heap) : List (Addr × Obj) := (List.range h.objs.size).filterMap fun a => if a = L then none else (h.get? a).map fun o => (a, o)
theorem mem_allBut {L : Addr} {h : Heap} {b : Addr} {o : Obj} : (b, o) ∈ allBut L h ↔ b ≠ L ∧ h.get? b = some o := by
  unfold allBut
  rw [List.mem_filterMap]
  constructor
  · rintro ⟨a, ha, e⟩
    split at e
    · cases e
    · rename_i hne
      obtain ⟨o', ho', e'⟩ := Option.map_eq_some_iff.mp e
      cases e'
      exact ⟨hne, ho'⟩
  · rintro ⟨hne, e⟩
    exact ⟨b, List.mem_range.mpr (Heap.lt_size e), by rw [if_neg hne, e]; rfl⟩
theorem ns_unique {h : Heap} {a : Addr} {m m' : Str → Option Value} (x : h.Ns a m) (y : h.Ns a m') : m = m' := funext fun n => x.agree y n
theorem adapt {h : Heap} {L : Addr} {ml : Str → Option Value} (hn : h.Ns L ml) : Fr {} L h ml ∧ News {} L h (allBut L h) :=
  ⟨⟨hn, fun b o e => (by cases e), Nat.zero_le _⟩, fun p hp => ⟨(mem_allBut.mp hp).2, (mem_allBut.mp hp).1, rfl⟩⟩
theorem gw_of {h h' : Heap} {L : Addr} {ml : Str → Option Value} {more : List (Addr × Obj)} (hn : h.Ns L ml) (F : Fr {} L h' ml) (N : News {} L h' (more ++ allBut L h)) : Gw L h h' where
  keep := fun b o hb e => (N (b, o) (List.mem_append_right _ (mem_allBut.mpr ⟨hb, e⟩))).1
  own := fun o d e => by obtain ⟨o', es, ep, ho, hd, _⟩ := hn; rw [e] at ho; cases ho; exact absurd hd (d _ _)
  ns := fun m x => by rw [ns_unique x hn]; exact F.ns
  alive := fun b o e => by
    by_cases hb : b = L
    · subst hb; obtain ⟨o', _, _, ho, _⟩ := F.ns; exact ⟨o', ho⟩
    · exact ⟨o, (N (b, o) (List.mem_append_right _ (mem_allBut.mpr ⟨hb, e⟩))).1⟩
theorem fresh_of {h h' : Heap} {L D : Addr} {od : Obj} {more : List (Addr × Obj)} (N : News {} L h' ((D, od) :: more)) (hlt : ∀ p ∈ allBut L h, p.1 < D) : h.get? D = none := by
  cases e : h.get? D with
  | none => rfl
  | some o => exact absurd (hlt (D, o) (mem_allBut.mpr ⟨(N (D, od) (.head _)).2.1, e⟩)) (Nat.lt_irrefl _)

structure Bs (mg : Str → Option Value) (h : Heap) : Prop where
  g : h.Ns mainGlobals mg
  b : ∃ mb, h.Ns builtinsNs mb ∧ ∀ x : Str, x ≠ "__name__" → mb x = bootBuiltins x
  lim : h.NoLimit
theorem Bs.sub {mg : Str → Option Value} {h h' : Heap} (B : Bs mg h) (s : Sub h h') : Bs mg h' := ⟨B.g.keeps s, let ⟨mb, a, b⟩ := B.b; ⟨mb, a.keeps s, b⟩, B.lim.keeps s⟩

section
variable {prog : Program} {w : World} {k : Nat} {env : Env} {h h' : Heap} {β : Heap} {m : List (Str × V)} {mg : Str → Option Value}

theorem name_glob {A : Around} {s : Shared} {x : Str} {pos : Pos} {v : Value} {Q : Value → Shared → Prop} {E : Value → Shared → Prop} (F : Fx β env s.heap m) (B : Bs mg β)
    (hx : env.kindOf x = some .globalImplicit) (hv : mg x = some v) (q : Q v s) (hd : (x == ("__debug__" : Str)) = false := by decide) : wpAny (model prog w) A (eval (.Name x pos) env) Q E s :=
  Name_function_global F.kind hx (loadGlobal_global (by rw [F.glob]; exact (B.sub F.sub).g) hv q) hd
theorem name_built {A : Around} {s : Shared} {x : Str} {pos : Pos} {v : Value} {Q : Value → Shared → Prop} {E : Value → Shared → Prop} (F : Fx β env s.heap m) (B : Bs mg β)
    (hx : env.kindOf x = some .globalImplicit) (hv : mg x = none) (hb : bootBuiltins x = some v) (q : Q v s) (hn : x ≠ "__name__" := by decide) (hd : (x == ("__debug__" : Str)) = false := by decide) : wpAny (model prog w) A (eval (.Name x pos) env) Q E s := by
  obtain ⟨mb, b1, b2⟩ := (B.sub F.sub).b
  exact Name_function_global F.kind hx (loadGlobal_builtin (by rw [F.glob]; exact (B.sub F.sub).g) hv (by rw [F.bult]; exact b1) ((b2 x hn).trans hb) q) hd
theorem Ev.glob {x : Str} {pos : Pos} {a : Addr} (F : Fx β env h m) (B : Bs mg β) (hx : env.kindOf x = some .globalImplicit) (hv : mg x = some (.ref a)) (hd : (x == ("__debug__" : Str)) = false := by decide) :
    Ev prog w k env h (.Name x pos) (.ref a) := fun A hA s g Q E q => name_glob (F.gw g) B hx hv (q _ s.heap s.toks .refl rfl) hd

/-- a built-in or a type by its name, one argument -/
theorem Gr.call1 {x : Str} {p pos : Pos} {e : Expr} {f : Value} {P P' : Value → Heap → Heap → Prop} (F : Fx β env h m) (B : Bs mg β) (hx : env.kindOf x = some .globalImplicit) (hv : mg x = none) (hb : bootBuiltins x = some f)
    (hf : (∃ id, f = .builtin id) ∨ ∃ T, f = .type T) (a : Gr prog w k env h e P)
    (c : ∀ A, Lv k A → ∀ s : Shared, Gw env.locals h s.heap → ∀ v h₀, P v h₀ s.heap → ∀ (Q : Value → Shared → Prop) (E : Value → Shared → Prop), (∀ v' h' t, Gw env.locals s.heap h' → (∀ h₁, Gw env.locals h₁ s.heap → P' v' h₁ h') → Q v' { s with heap := h', toks := t }) → wpAny (model prog w) A (call f [v]) Q E s)
    (he : starEach [e] env = [(false, eval e env)] := by rfl) (hn : x ≠ "__name__" := by decide) (hd : (x == ("__debug__" : Str)) = false := by decide) : Gr prog w k env h (.Call (.Name x p) [e] [] pos) P' :=
  fun A hA s g Q E q => by
    refine Call_Name rfl (name_built (F.gw g) B hx hv hb ?_ hn hd)
    have key : wpAny (model prog w) A (spliced (backTo pos (starEach [e] env))) (fun vs s₁ => wpAny (model prog w) A (call f vs) Q E s₁) E s := by
      rw [he]
      refine spliced_cons (a A hA s g _ _ fun v h1 t1 g1 e1 => spliced_nil ?_)
      exact c A hA _ (g.trans g1) v _ e1 _ _ fun v' h2 t2 g2 r => q v' h2 t2 (g1.trans g2) (r _ g1)
    rcases hf with ⟨id, rfl⟩ | ⟨T, rfl⟩
    · exact callWith_builtin1 key he rfl
    · exact PyProof.Rows.callWith_type1 key he rfl

theorem Ev.len {p pos : Pos} {e : Expr} {us : List V} (F : Fx β env h m) (B : Bs mg β) (hx : env.kindOf "len" = some .globalImplicit) (hv : mg "len" = none) (a : EvA prog w k env h e us) (hz : us.length ≤ 1000)
    (he : starEach [e] env = [(false, eval e env)] := by rfl) : Ev prog w k env h (.Call (.Name "len" p) [e] [] pos) (.int us.length) :=
  Gr.call1 F B hx hv boot_len (.inl ⟨_, rfl⟩) a (fun A hA s g v h₀ ⟨l, e1, xl⟩ Q E q => by
    subst e1
    obtain ⟨vs, n, il, pp⟩ := xl
    refine call_len_list (items := vs.toArray) ⟨_, il, rfl, n, rfl⟩ (by rw [List.size_toArray, paired_length pp]; omega) (q _ s.heap _ .refl fun _ _ => ⟨s.toks + 1, by rw [List.size_toArray, paired_length pp]⟩)) he

theorem ints_of {h : Heap} {vs : List Value} {ns : List Int} (p : Paired (Rep h) vs (ns.map V.int)) : IntsAre vs ns := by
  induction ns generalizing vs with
  | nil => cases p; exact .nil
  | cons n ns ih => cases p with
    | cons f r => obtain ⟨t, rfl⟩ := f; exact .cons _ _ (ih r)
theorem of_ints {h : Heap} {vs : List Value} {ns : List Int} (p : IntsAre vs ns) : Paired (Rep h) vs (ns.map V.int) := by
  induction p with
  | nil => exact .nil
  | cons _ _ _ ih => exact .cons ⟨_, rfl⟩ ih

def least : List Int → Int
  | [] => 0
  | [a] => a
  | a :: b :: r => min a (least (b :: r))
theorem least_mem : ∀ {l : List Int}, l ≠ [] → least l ∈ l
  | [a], _ => .head _
  | a :: b :: r, _ => by
    have ih := least_mem (l := b :: r) (by simp)
    simp only [least]
    by_cases hab : a ≤ least (b :: r)
    · rw [Int.min_eq_left hab]; exact .head _
    · rw [Int.min_eq_right (by omega)]; exact .tail _ ih
theorem least_le : ∀ {l : List Int} {a : Int}, a ∈ l → least l ≤ a
  | [b], a, h => by rw [List.mem_singleton.mp h]; exact Int.le_refl _
  | b :: c :: r, a, h => by
    simp only [least]
    rcases List.mem_cons.mp h with rfl | h
    · exact Int.min_le_left _ _
    · have := least_le (l := c :: r) h; exact Int.le_trans (Int.min_le_right _ _) this
theorem least_unique {l : List Int} {M : Int} (h1 : M ∈ l) (h2 : ∀ a, a ∈ l → M ≤ a) : M = least l := by
  have := h2 _ (least_mem (l := l) (fun e => by rw [e] at h1; cases h1))
  have := least_le h1
  omega

theorem Ev.min {p pos : Pos} {e : Expr} {ns : List Int} (F : Fx β env h m) (B : Bs mg β) (hx : env.kindOf "min" = some .globalImplicit) (hv : mg "min" = none) (a : EvA prog w k env h e (ns.map V.int)) (hne : 0 < ns.length)
    (he : starEach [e] env = [(false, eval e env)] := by rfl) : Ev prog w k env h (.Call (.Name "min" p) [e] [] pos) (.int (least ns)) :=
  Gr.call1 F B hx hv boot_min (.inl ⟨_, rfl⟩) a (fun A hA s g v h₀ ⟨l, e1, xl⟩ Q E q => by
    subst e1
    obtain ⟨vs, il, pp⟩ := xl.isList
    obtain ⟨ml, n1, -⟩ := (F.gw g).ns
    obtain ⟨F1, N1⟩ := adapt n1
    refine min_list_N hA.hand F1 N1 il (ints_of pp) hne fun h' M t tk F' N' b1 b2 => q _ _ _ (gw_of (more := []) n1 F' N') fun _ _ => ⟨t, ?_⟩
    rw [least_unique b1 b2]) he

theorem EvL.copy {p pos : Pos} {e : Expr} {us : List V} (F : Fx β env h m) (B : Bs mg β) (hx : env.kindOf "list" = some .globalImplicit) (hv : mg "list" = none) (a : EvA prog w k env h e us) (hz : us.length ≤ 1000)
    (he : starEach [e] env = [(false, eval e env)] := by rfl) : EvL prog w k env h (.Call (.Name "list" p) [e] [] pos) us :=
  Gr.call1 F B hx hv PyProof.Rows.boot_list (.inr ⟨_, rfl⟩) a (fun A hA s g v h₀ ⟨l, e1, xl⟩ Q E q => by
    subst e1
    obtain ⟨vs, n, il, pp⟩ := xl
    refine call_list_seq l (T := "list") (.inl rfl) il rfl rfl (fun h' c' k1 k2 => q _ _ s.toks (.ofSub k1) fun h₁ g1 => ⟨_, rfl, ⟨vs, c', k2, paired_mono (fun _ _ => rep_sub k1) pp⟩, g1.fresh get_new⟩) (by rw [List.size_toArray, paired_length pp, sizeLine_eq]; omega)) he

theorem Ev.intInt {p pos : Pos} {e : Expr} {i : Int} (F : Fx β env h m) (B : Bs mg β) (hx : env.kindOf "int" = some .globalImplicit) (hv : mg "int" = none) (a : Ev prog w k env h e (.int i))
    (he : starEach [e] env = [(false, eval e env)] := by rfl) : Ev prog w k env h (.Call (.Name "int" p) [e] [] pos) (.int i) :=
  Gr.call1 F B hx hv PyProof.Rows.boot_int (.inr ⟨_, rfl⟩) a (fun A hA s g v h₀ ⟨t, e1⟩ Q E q => by
    subst e1
    exact call_int_int (q _ s.heap s.toks .refl fun _ _ => ⟨t, rfl⟩)) he
theorem Ev.intBool {p pos : Pos} {e : Expr} {b : Bool} (F : Fx β env h m) (B : Bs mg β) (hx : env.kindOf "int" = some .globalImplicit) (hv : mg "int" = none) (a : Ev prog w k env h e (.bool b))
    (he : starEach [e] env = [(false, eval e env)] := by rfl) : Ev prog w k env h (.Call (.Name "int" p) [e] [] pos) (.int (if b then 1 else 0)) :=
  Gr.call1 F B hx hv PyProof.Rows.boot_int (.inr ⟨_, rfl⟩) a (fun A hA s g v h₀ e1 Q E q => by
    cases e1
    exact call_int_bool (q _ s.heap _ .refl fun _ _ => ⟨_, rfl⟩)) he
theorem Ev.abs {p pos : Pos} {e : Expr} {i : Int} (F : Fx β env h m) (B : Bs mg β) (hx : env.kindOf "abs" = some .globalImplicit) (hv : mg "abs" = none) (a : Ev prog w k env h e (.int i))
    (he : starEach [e] env = [(false, eval e env)] := by rfl) : Ev prog w k env h (.Call (.Name "abs" p) [e] [] pos) (.int (if i < 0 then -i else i)) :=
  Gr.call1 F B hx hv boot_abs (.inl ⟨_, rfl⟩) a (fun A hA s g v h₀ ⟨t, e1⟩ Q E q => by
    subst e1
    exact call_abs_int fun u tk => q _ s.heap tk .refl fun _ _ => ⟨u, rfl⟩) he

theorem ints_mem {vs : List Value} {ns : List Int} (p : IntsAre vs ns) {y : Value} (hy : y ∈ vs) : ∃ i t, y = .int i t := by
  induction p with
  | nil => cases hy
  | cons _ _ _ ih => rcases List.mem_cons.mp hy with rfl | h
                     · exact ⟨_, _, rfl⟩
                     · exact ih h
theorem any_ints {x : Int} {vs : List Value} {ns : List Int} (p : IntsAre vs ns) : (vs.toArray.any fun y => match y with | .int i _ => i == x | _ => false) = ns.contains x := by
  rw [List.any_toArray]
  induction p with
  | nil => rfl
  | cons n _ _ ih =>
    rw [List.any_cons, List.contains_cons, ih]
    congr 1
    show (n == x) = (x == n)
    exact Bool.beq_comm
/-- an int in a list of ints -/
theorem in_list {A : Around} {s : Shared} {x : Int} {t : Tok} {l : Addr} {ns : List Int} {Q : Value → Shared → Prop} {E : Value → Shared → Prop} (xl : Lst s.heap l (ns.map V.int)) (q : Q (.bool (ns.contains x)) s) :
    wpAny (model prog w) A (compareOp .In (.int x t) (.ref l)) Q E s := by
  obtain ⟨vs, il, pp⟩ := xl.isList
  have hI := ints_of pp
  refine in_listAt (fun y => match y with | .int i _ => i == x | _ => false) il (fun y hy => ?_) ?_
  · have : y ∈ vs := by simpa using hy
    obtain ⟨i, ti, rfl⟩ := ints_mem hI this
    exact EqAt.int_int i ti x t
  · rw [any_ints hI]
    exact q
theorem Ev.inInts {a b : Expr} {pos : Pos} {x : Int} {ns : List Int} (p : Ev prog w k env h a (.int x)) (y : EvA prog w k env h b (ns.map V.int)) (hm : behindInMarks .In b = false := by with_unfolding_all rfl) :
    Ev prog w k env h (.Compare a [.In] [b] pos) (.bool (ns.contains x)) :=
  fun A hA s g Q E q => wpAny_Compare1 (p A hA s g _ _ fun v h1 t1 g1 ⟨t9, e1⟩ => y A hA _ (g.trans g1) _ _ fun v2 h2 t2 g2 ⟨l2, e2, yl⟩ => by
    subst e1; subst e2
    exact in_list (s := { s with heap := h2, toks := t2 }) yl (q _ h2 t2 (g1.trans g2) rfl)) hm
theorem Tr.inInts {a b : Expr} {pos : Pos} {x : Int} {ns : List Int} (p : Ev prog w k env h a (.int x)) (y : EvA prog w k env h b (ns.map V.int)) (hm : behindInMarks .In b = false := by with_unfolding_all rfl) :
    Tr prog w k env h (.Compare a [.In] [b] pos) (ns.contains x) :=
  fun A hA s g Q E q => wpAny_isTrue_Compare1 (p A hA s g _ _ fun v h1 t1 g1 ⟨t9, e1⟩ => y A hA _ (g.trans g1) _ _ fun v2 h2 t2 g2 ⟨l2, e2, yl⟩ => by
    subst e1; subst e2
    exact in_list (s := { s with heap := h2, toks := t2 }) yl (wpAny_truthy_bool (q h2 t2 (g1.trans g2)))) hm
end
end Mine

set_option Elab.async false
set_option maxRecDepth 100000
set_option linter.unusedVariables false
set_option autoImplicit false
namespace Mine
open PySem PySem.W PyProof.Rows PySem.Calls PySem.SeqAt

/-! instances: an object and its dict -/
def Nd (h : Heap) (d : Addr) (n : Nat) (m : Str → Option Value) : Prop :=
  ∃ (es : Array DictEntry) (ep : Nat), h.get? d = some ({ cls := .type "dict", data := .dict es ep } : Obj) ∧ StrKeys es ∧ (∀ x, nsFind es x = m x) ∧ es.size ≤ n
theorem Nd.at {h h' : Heap} {d : Addr} {n : Nat} {m : Str → Option Value} (x : Nd h d n m) (k : ∀ o, h.get? d = some o → h'.get? d = some o) : Nd h' d n m :=
  let ⟨es, ep, e, r⟩ := x; ⟨es, ep, k _ e, r⟩
theorem Nd.some {h : Heap} {d : Addr} {n : Nat} {m : Str → Option Value} (x : Nd h d n m) : ∃ o, h.get? d = some o := let ⟨es, ep, e, r⟩ := x; ⟨_, e⟩
theorem Nd.gw {h h' : Heap} {d L : Addr} {n : Nat} {m : Str → Option Value} (x : Nd h d n m) (g : Gw L h h') (hd : d ≠ L) : Nd h' d n m := x.at fun o e => g.keep d o hd e
theorem Nd.ns {h : Heap} {d : Addr} {n : Nat} {m : Str → Option Value} (x : Nd h d n m) : h.Ns d m := let ⟨es, ep, e, a, b, _⟩ := x; ⟨_, es, ep, e, rfl, a, b⟩
theorem Nd.look {h : Heap} {d : Addr} {n : Nat} {m : Str → Option Value} (x : Nd h d n m) : ∃ od, h.get? d = Option.some od ∧ ∀ name, lookIn name od = Option.some (m name) := by
  obtain ⟨es, ep, e, hk, hf, _⟩ := x
  refine ⟨_, e, fun name => ?_⟩
  rw [← hf name]
  unfold lookIn nsFind findBy
  dsimp only
  rw [← Array.find?_toList]
  cases q : es.toList.find? fun e => e.key.isStr name with
  | some en => rfl
  | none =>
    have : es.toList.any (·.refKey) = false := by
      rw [List.any_eq_false]
      intro en he
      obtain ⟨nn, t, hh⟩ := hk en (Array.mem_toList_iff.mp he)
      simp [DictEntry.refKey, hh]
    simp only [this, Bool.false_eq_true, if_false, Option.map_none]

structure Kc (K : Frag) (C : Addr) (xs : List Str) : Prop where
  ga : findIn K (.ref C) "__getattribute__" = some (some (.builtin "object.__getattribute__"))
  sa : findIn K (.ref C) "__setattr__" = some (some (.builtin "object.__setattr__"))
  dict : hasDictIn K C = true
  over : plainOver K C = true
  free : ∀ x ∈ xs, findIn K (.ref C) x = some none

theorem handed_rep {h : Heap} {v : Value} {u : V} (r : Rep h v u) : handedIn v = true := by
  cases u with
  | int => obtain ⟨_, rfl⟩ := r; rfl
  | bool => cases r; rfl
  | none => cases r; rfl
  | str => obtain ⟨_, rfl⟩ := r; rfl
  | ref => cases r; rfl
  | tri => obtain ⟨_, _, _, rfl, _⟩ := r; rfl

section
variable {prog : Program} {w : World} {k : Nat} {env : Env} {h h' : Heap} {β : Heap} {m : List (Str × V)} {mg : Str → Option Value} {K : Frag} {C a d : Addr} {xs : List Str} {n : Nat} {mi : Str → Option Value}

theorem inst_at {s : Shared} (I : s.heap.get? a = some (instObj C d)) {od : Obj} (D : s.heap.get? d = some od) : InstAt s.heap a (instObj C d) C (some od) := ⟨I, rfl, rfl, D⟩

theorem get_fld {A : Around} {s : Shared} {x : Str} {v : Value} {u : V} {expr : Bool} {Q : Value → Shared → Prop} {E : Value → Shared → Prop} (X : K.In s.heap) (Y : Kc K C xs) (hx : x ∈ xs)
    (I : s.heap.get? a = some (instObj C d)) (D : Nd s.heap d n mi) (hv : mi x = some v) (r : Rep s.heap v u) (q : Q v { s with toks := s.toks + 1 }) : wpAny (model prog w) A (getAttr (.ref a) x expr) Q E s := by
  obtain ⟨od, e, hl⟩ := D.look
  exact get_value X (inst_at I e) Y.ga (findObj_own Y.dict (Y.free x hx) rfl ((hl x).trans (by rw [hv]))) (handed_rep r) q

theorem Ev.attr {e : Expr} {x : Str} {pos : Pos} {v : Value} {u : V} (F : Fx β env h m) (X : K.In β) (Y : Kc K C xs) (hx : x ∈ xs) (y : Ev prog w k env h e (.ref a))
    (I : h.get? a = some (instObj C d)) (D : Nd h d n mi) (hL : d ≠ env.locals) (hv : mi x = some v) (r : Rep h v u)
    (he : eval (.Attribute e x pos) env = (do let o ← eval e env; standAt pos.atName; let r ← holding [o] (getAttr o x true); letTemporaryGo e o r; pure r) := by with_unfolding_all rfl) :
    Ev prog w k env h (.Attribute e x pos) u :=
  fun A hA s g Q E q => Attribute_any_ (y A hA s g _ _ fun v1 h1 t1 g1 e1 => by
    cases e1
    have gg := g.trans g1
    exact get_fld (s := { s with heap := h1, toks := t1 }) (X.keeps (F.gw gg).sub) Y hx (gg.obj (notDict_plain rfl) I) (D.gw gg hL) hv (gg.rep r) (q v h1 _ g1 (gg.rep r))) he

theorem osa_fld {A : Around} {s : Shared} {x : Str} {v : Value} {tk : Tok} {R : Result → Shared → Prop} (X : K.In s.heap) (Y : Kc K C xs) (hx : x ∈ xs)
    (I : s.heap.get? a = some (instObj C d)) (D : Nd s.heap d n mi) (hn : n ≤ 900)
    (q : ∀ h' t, Nd h' d (if (mi x).isSome then n else n + 1) (fun y => if y = x then some v else mi y) → Heap.SameBut d s.heap h' → R (.ok (.ret .none)) { s with heap := h', toks := t }) :
    codeAny (model prog w) A (.call (.builtin "object.__setattr__") ⟨[.ref a, .str x tk, v], []⟩) R s := by
  obtain ⟨od, e, hl⟩ := D.look
  refine osa_open (r := none) X (inst_at I e) Y.over (by unfold takerIn; rw [Y.free x hx]; rfl) fun b => ?_
  obtain ⟨cd, hc, hd'⟩ := any_some Y.dict
  refine wpAny_bind (wpAny_pure (wpAny_bind (wpAny_bind (wpAny_loadPart I (wpAny_bind ((looks_clsIn X hc).here ?_))))))
  rw [hd']
  refine wpAny_pure (a := some d) (wpAny_bind (wpAny_pure (wpAny_bind ?_)))
  obtain ⟨es, ep, e', hk, hf, hz⟩ := D
  have D' : s.heap.get? d = some ({ cls := .type "dict", data := .dict es ep } : Obj) := e'
  unfold nsSet
  refine wpAny_bind (wpAny_bind (wpAny_askSetting (wpAny_pure (wpAny_bind (wpAny_mkText (wpAny_bind (wpAny_loadPart D' ?_)))))))
  dsimp only
  have hany : es.any (·.refKey) = false := by
    rw [Array.any_eq_false']; intro e he; obtain ⟨n, t, h⟩ := hk e he; simp [DictEntry.refKey, h]
  have c : (!es.any (·.key.isStr x) && es.any (·.refKey)) = false := by rw [hany, Bool.and_false]
  rw [aRefKeyMayBeTheName_at, c]
  refine wpAny_updatePart D' ?_
  have fin : ∀ (es' : Array DictEntry) (ep' : Nat), Obj.putName x (PyData.keyHash w.params x) (.str x s.toks) v ({ cls := .type "dict", data := .dict es ep } : Obj) = ({ cls := .type "dict", data := .dict es' ep' } : Obj) →
      StrKeys es' → (∀ y, nsFind es' y = if y = x then some v else mi y) → es'.size ≤ (if (mi x).isSome then n else n + 1) →
      wpAny (model prog w) A.in1 (lookBehind d (some keysPart) >>= fun _ => pure (Fin.done (.ret .none))) (fun fin s' => match fin with | .done f => R (.ok f) s' | .again c' => c'.quiet = true ∧ codeAny (model prog w) A c' R s') (fun e s' => R (.error e) s')
        { s with heap := s.heap.update d (Obj.putName x (PyData.keyHash w.params x) (.str x s.toks) v), toks := s.toks + 1 } := by
    intro es' ep' e1 k1 f1 z1
    have D2 : (s.heap.update d (Obj.putName x (PyData.keyHash w.params x) (.str x s.toks) v)).get? d = some ({ cls := .type "dict", data := .dict es' ep' } : Obj) := by
      rw [← e1]; exact Heap.get?_update_self _ D' (by rw [e1]; rfl)
    refine wpAny_bind (wpAny_lookBehind D2 (pastItsLine_dict (by rw [sizeLine_eq]; split at z1 <;> omega)) ?_)
    exact wpAny_pure (q _ _ ⟨es', ep', D2, k1, f1, z1⟩ (Heap.SameBut.update ..))
  cases hi : es.findIdx? (·.key.isStr x) with
  | some i =>
    have hs : (mi x).isSome = true := by
      rw [← hf x]; simp only [nsFind, findBy, Option.isSome_map, Array.find?_isSome]
      obtain ⟨h1, h2, _⟩ := Array.findIdx?_eq_some_iff_getElem.mp hi
      exact ⟨_, Array.getElem_mem h1, h2⟩
    refine fin (es.modify i fun e => ⟨e.hash, e.key, v⟩) ep ?_ (hk.modify i v) (fun y => ?_) ?_
    · simp only [Obj.putName_eq, Obj.putNameByArray, hi]
    · rw [← hf]; exact findBy_modify (fun n v => v.isStr n) Value.isStr_inj es x y v i hi
    · rw [if_pos hs, Array.size_modify]; exact hz
  | none =>
    have hs : (mi x).isSome = false := by
      rw [← hf x]; simp only [nsFind, findBy, Option.isSome_map]
      cases hq : es.find? (fun e => e.key.isStr x) with
      | none => rfl
      | some e =>
        have h1 := Array.find?_some hq
        have h2 := (Array.findIdx?_eq_none_iff.mp hi) e (Array.mem_of_find?_eq_some hq)
        rw [h1] at h2; cases h2
    refine fin (es.push ⟨PyData.keyHash w.params x, .str x s.toks, v⟩) (ep + 1) ?_ (hk.push _ _ _ _) (fun y => ?_) ?_
    · simp only [Obj.putName_eq, Obj.putNameByArray, hi]
    · rw [← hf]
      exact findBy_push (fun n v => v.isStr n) es x y _ _ v (fun z => by
        show (x == z) = decide (z = x)
        by_cases h : z = x
        · subst h; simp
        · have : ¬ x = z := fun e => h e.symm
          simp [h, this]) hi
    · rw [hs, if_neg (by decide), Array.size_push]; omega

/-- a store into an object's own dict -/
theorem set_fld {A : Around} {s : Shared} {x : Str} {v : Value} {Q : Unit → Shared → Prop} {E : Value → Shared → Prop} (X : K.In s.heap) (Y : Kc K C xs) (hx : x ∈ xs)
    (I : s.heap.get? a = some (instObj C d)) (D : Nd s.heap d n mi) (hn : n ≤ 900)
    (q : ∀ h' t, Nd h' d (if (mi x).isSome then n else n + 1) (fun y => if y = x then some v else mi y) → Heap.SameBut d s.heap h' → Q () { s with heap := h', toks := t }) : wpAny (model prog w) A (setAttr (.ref a) x v) Q E s := by
  obtain ⟨od, e, hl⟩ := D.look
  exact set_plain X (inst_at I e) Y.sa (osa_fld (s := { s with toks := s.toks + 1 }) X Y hx I D hn q)
end
end Mine

set_option Elab.async false
set_option maxRecDepth 100000
set_option linter.unusedVariables false
set_option autoImplicit false
namespace Mine
open PySem PySem.W PyProof.Rows PySem.Calls PySem.SeqAt

def isVar (env : Env) (x : Str) : Prop := env.kindOf x = some .local ∨ (env.kindOf x = some .cell ∧ (env.cells.lookup x).isSome = true)
/-- an address of the frame's own: its namespace, its cells -/
def Own (env : Env) (b : Addr) : Prop := b = env.locals ∨ ∃ x, env.cells.lookup x = some b
/-- all that is not of the frame's own, nor of W, is as it was -/
def Kp (env : Env) (W : Addr → Prop) (h h' : Heap) : Prop := ∀ b o, ¬ Own env b → ¬ W b → h.get? b = some o → h'.get? b = some o
abbrev no : Addr → Prop := fun _ => False

open Classical in
/-- the heap without the objects of P -/
noncomputable def hideP (P : Addr → Prop) (h : Heap) : Heap := ⟨h.objs.mapIdx fun i o => if P i then { o with data := .freed } else o, h.life⟩
open Classical in
theorem get_hideP (P : Addr → Prop) (h : Heap) (b : Addr) : (hideP P h).get? b = if P b then none else h.get? b := by
  unfold hideP Heap.get?
  simp only [Array.getElem?_mapIdx]
  cases e : h.objs[b]? with
  | none => simp
  | some o =>
    obtain ⟨c, d, dt, sl⟩ := o
    by_cases hp : P b
    · simp [hp]
    · simp only [Option.map_some, if_neg hp]

section
variable {prog : Program} {w : World} {k : Nat} {env : Env} {h h' h'' : Heap} {β : Heap} {m : List (Str × V)} {mg : Str → Option Value} {W : Addr → Prop}

theorem Kp.refl : Kp env W h h := fun _ _ _ _ e => e
theorem Kp.trans (a : Kp env W h h') (b : Kp env W h' h'') : Kp env W h h'' := fun x o n nw e => b x o n nw (a x o n nw e)
theorem Kp.ofGw (g : Gw env.locals h h') : Kp env W h h' := fun b o n _ e => g.keep b o (fun hb => n (.inl hb)) e
theorem Kp.more {W' : Addr → Prop} (a : Kp env W h h') (hw : ∀ b, W b → W' b) : Kp env W' h h' := fun x o n nw e => a x o n (fun q => nw (hw _ q)) e

theorem Fx.ownKind (F : Fx β env h m) {b : Addr} (hb : Own env b) : ∃ o, h.get? b = some o ∧ ((∃ es n, o.data = .dict es n) ∨ ∃ v, o.data = .cell v) := by
  rcases hb with rfl | ⟨x, hx⟩
  · obtain ⟨ml, ⟨o, es, ep, ho, hd, _⟩, _⟩ := F.ns; exact ⟨o, ho, .inl ⟨_, _, hd⟩⟩
  · obtain ⟨ov, ⟨o, ho, hd⟩, _⟩ := F.cell x b hx; exact ⟨o, ho, .inr ⟨_, hd⟩⟩
theorem Fx.notOwn (F : Fx β env h m) {b : Addr} {o : Obj} (ho : h.get? b = some o) (h1 : ∀ es n, o.data ≠ .dict es n) (h2 : ∀ v, o.data ≠ .cell v) : ¬ Own env b := fun hb => by
  obtain ⟨o', ho', hk⟩ := F.ownKind hb
  rw [ho] at ho'; cases ho'
  rcases hk with ⟨es, n, e⟩ | ⟨v, e⟩
  · exact h1 _ _ e
  · exact h2 _ e
theorem Fx.notOwnβ (F : Fx β env h m) {b : Addr} {o : Obj} (ho : β.get? b = some o) : ¬ Own env b := fun hb => by
  rcases hb with rfl | ⟨x, hx⟩
  · rw [F.newL] at ho; cases ho
  · rw [F.newC x b hx] at ho; cases ho
theorem Kp.rep (F : Fx β env h m) (kp : Kp env no h h') {v : Value} {u : V} (r : Rep h v u) : Rep h' v u := by
  cases u <;> try exact r
  obtain ⟨a, t1, t2, e, o, ho, hc, n, hd⟩ := r
  exact ⟨a, t1, t2, e, o, kp a o (F.notOwn ho (fun _ _ q => by rw [hd] at q; cases q) (fun _ q => by rw [hd] at q; cases q)) (fun q => q) ho, hc, n, hd⟩
theorem Kp.lst (F : Fx β env h m) (kp : Kp env no h h') {l : Addr} {us : List V} (x : Lst h l us) : Lst h' l us :=
  let ⟨vs, n, e, p⟩ := x
  ⟨vs, n, kp l _ (F.notOwn e (fun _ _ q => by cases q) (fun _ q => by cases q)) (fun q => q) e, paired_mono (fun _ _ => Kp.rep F kp) p⟩

/-- a store into a variable -/
theorem store {A : Around} {s : Shared} {x : Str} {v : Value} {u : V} {Q : Unit → Shared → Prop} {E : Value → Shared → Prop} (F : Fx β env s.heap m) (hv : isVar env x) (r : Rep s.heap v u)
    (q : ∀ h' t, Fx β env h' (put m x u) → Kp env no s.heap h' → Q () { s with heap := h', toks := t }) : wpAny (model prog w) A (storeName env x v) Q E s := by
  have fin : ∀ (h' : Heap) (b : Addr), Own env b → Heap.SameBut b s.heap h' → Kp env no s.heap h' := fun h' b hb hs c o hn _ e => (hs.2 c (fun hc => hn (hc ▸ hb))).trans e
  have sub : ∀ (h' : Heap) (b : Addr), Own env b → Heap.SameBut b s.heap h' → Sub β h' := fun h' b hb hs c o e => (hs.2 c (fun hc => F.notOwnβ e (hc ▸ hb))).trans (F.sub c o e)
  rcases hv with hl | ⟨hl, hc⟩
  · obtain ⟨ml, n, kk⟩ := F.ns
    refine wpAny_storeName_local hl n (fun h' hn hs => ?_) (by rw [F.kind]; rfl)
    have kp := fin h' _ (.inl rfl) hs
    refine q h' _ { F with sub := sub h' _ (.inl rfl) hs, ns := ⟨_, hn, fun y u' e hk => ?_⟩, cell := fun y c hy => ?_ } kp
    · rw [get_put] at e
      by_cases hy : y = x
      · rw [if_pos hy] at e ⊢; cases e; exact ⟨v, rfl, Kp.rep F kp r⟩
      · rw [if_neg hy] at e ⊢; obtain ⟨v', a, b⟩ := kk y u' e hk; exact ⟨v', a, Kp.rep F kp b⟩
    · obtain ⟨ov, i, kk⟩ := F.cell y c hy
      obtain ⟨o, ho, hd⟩ := id i
      have hcL : c ≠ env.locals := fun e => by
        obtain ⟨o', es, ep, ho', hd', _⟩ := n
        rw [e] at ho; rw [ho] at ho'; cases ho'; rw [hd] at hd'; cases hd'
      refine ⟨ov, i.sameBut hs hcL, fun u' e => ?_⟩
      rw [get_put] at e
      by_cases hyx : y = x
      · exact absurd hl (F.kindC x c (hyx ▸ hy))
      · rw [if_neg hyx] at e
        obtain ⟨v', a, b⟩ := kk u' e
        exact ⟨v', a, Kp.rep F kp b⟩
  · obtain ⟨c, hc⟩ := Option.isSome_iff_exists.mp hc
    obtain ⟨ov, i, kk⟩ := F.cell x c hc
    refine wpAny_storeName_cell F.kind hl hc i fun h' hi hs => ?_
    have kp := fin h' c (.inr ⟨x, hc⟩) hs
    obtain ⟨o, ho, hd⟩ := id i
    refine q h' s.toks { F with sub := sub h' c (.inr ⟨x, hc⟩) hs, ns := ?_, cell := fun y c' hy => ?_ } kp
    · obtain ⟨ml, n, kl⟩ := F.ns
      refine ⟨ml, n.sameBut hs (fun e => ?_), fun y u' e hk => ?_⟩
      · obtain ⟨o', es, ep, ho', hd', _⟩ := n
        rw [← e] at ho; rw [ho] at ho'; cases ho'; rw [hd] at hd'; cases hd'
      · rw [get_put] at e
        by_cases hyx : y = x
        · rw [hyx, hl] at hk; cases hk
        · rw [if_neg hyx] at e
          obtain ⟨v', a, b⟩ := kl y u' e hk
          exact ⟨v', a, Kp.rep F kp b⟩
    · by_cases hyx : y = x
      · subst hyx
        rw [hc] at hy; cases hy
        refine ⟨_, hi, fun u' e => ?_⟩
        rw [get_put, if_pos rfl] at e; cases e
        exact ⟨v, rfl, Kp.rep F kp r⟩
      · obtain ⟨ov', i', kk'⟩ := F.cell y c' hy
        have hcc : c' ≠ c := fun q => hyx (name_of_addr F.apart (mem_of_lookup hy) (q ▸ mem_of_lookup hc))
        refine ⟨ov', i'.sameBut hs hcc, fun u' e => ?_⟩
        rw [get_put, if_neg hyx] at e
        obtain ⟨v', a, b⟩ := kk' u' e
        exact ⟨v', a, Kp.rep F kp b⟩

/-- a nearer base: all that there is but the frame's own -/
theorem Fx.rebase (F : Fx β env h m) : ∃ β', Sub β β' ∧ Fx β' env h m ∧ (∀ b o, ¬ Own env b → h.get? b = some o → β'.get? b = some o) ∧ Sub β' h := by
  refine ⟨hideP (Own env) h, fun b o e => ?_, { F with sub := fun b o e => ?_, newL := ?_, newC := fun x c hx => ?_ }, fun b o hn e => ?_, fun b o e => ?_⟩
  · rw [get_hideP, if_neg (F.notOwnβ e)]; exact F.sub b o e
  · rw [get_hideP] at e; split at e
    · cases e
    · exact e
  · rw [get_hideP, if_pos (.inl rfl)]
  · rw [get_hideP, if_pos (.inr ⟨x, hx⟩)]
  · rw [get_hideP, if_neg hn]; exact e
  · rw [get_hideP] at e; split at e
    · cases e
    · exact e
end
end Mine

set_option Elab.async false
set_option maxRecDepth 100000
set_option linter.unusedVariables false
set_option autoImplicit false
namespace Mine
open PySem PySem.W PyProof.Rows PySem.Calls PySem.SeqAt

/-- the frame of a def -/
def fEnv (scope : Scope) (qual : Str) (cd : Value) (L f : Addr) : Env :=
  newEnv scope L mainGlobals (cellsFrom (L + 1) scope.names []) (qual ++ ".<locals>.") (some f) cd none builtinsNs

/-- a def of the text stands at f -/
def Fn (h : Heap) (f : Addr) (ps : List Str) (scope : Scope) (body : List Stmt) : Prop :=
  ∃ (name qual : Str) (params : Arguments) (dV kV doc pm : Value) (an : Option Addr) (cdv ct oc : Value) (od : Option Addr) (osl : Array (Option Value)),
    h.get? f = some ⟨oc, od, .func (fnOf name qual params body scope dV kV doc pm an cdv ct), osl⟩ ∧ h.CodeRec cdv qual ∧
    ∀ vals : List Value, vals.length = ps.length → ∀ s : Shared, Sub h s.heap → BindsTo s (fnOf name qual params body scope dV kV doc pm an cdv ct) ⟨vals, []⟩ (ps.zip vals)
theorem Fn.sub {h h' : Heap} {f : Addr} {ps : List Str} {scope : Scope} {body : List Stmt} (x : Fn h f ps scope body) (s : Sub h h') : Fn h' f ps scope body :=
  let ⟨a1, a2, a3, a4, a5, a6, a7, a8, a9, a10, a11, a12, a13, e, c, b⟩ := x; ⟨a1, a2, a3, a4, a5, a6, a7, a8, a9, a10, a11, a12, a13, s _ _ e, c.keeps s, fun vals hv s' hs => b vals hv s' fun d o e => hs d o (s d o e)⟩

theorem bindL_get {kindOf : Str → Option NameKind} {h : Heap} {x : Str} {u : V} (hk : kindOf x = some .local) : ∀ {ps : List Str} {vals : List Value} {us : List V} {m : Str → Option Value}, Paired (Rep h) vals us → ps.length = vals.length → ps.Nodup → get (ps.zip us) x = some u →
    ∃ v, bindL kindOf (ps.zip vals) m x = some v ∧ Rep h v u
  | [], _, _, _, _, _, _, e => by cases e
  | p :: ps, [], _, _, _, hl, _, _ => by cases hl
  | p :: ps, v :: vals, [], _, hp, _, _, _ => by cases hp
  | p :: ps, v :: vals, w :: us, m, hp, hl, hn, e => by
    cases hp with
    | cons f r =>
      rw [List.nodup_cons] at hn
      simp only [List.zip_cons_cons, get] at e
      simp only [List.zip_cons_cons, bindL]
      by_cases hx : x = p
      · subst hx
        rw [if_pos rfl] at e; cases e
        rw [if_pos hk]
        have skip : ∀ (ps : List Str) (vals : List Value) (m : Str → Option Value), x ∉ ps → bindL kindOf (ps.zip vals) m x = m x := by
          intro ps
          induction ps with
          | nil => intro vals m _; rfl
          | cons q qs ih =>
            intro vals m hne
            cases vals with
            | nil => rfl
            | cons y ys =>
              simp only [List.zip_cons_cons, bindL]
              rw [ih ys _ (fun h => hne (.tail _ h))]
              have : x ≠ q := fun h => hne (h ▸ .head _)
              split
              · exact if_neg this
              · rfl
        exact ⟨v, by rw [skip ps vals _ hn.1, if_pos rfl], f⟩
      · rw [if_neg hx] at e
        exact bindL_get hk r (by simpa using hl) hn.2 e
theorem bindC_get {kindOf : Str → Option NameKind} {h : Heap} {x : Str} {u : V} (hk : kindOf x ≠ some .local) : ∀ {ps : List Str} {vals : List Value} {us : List V} {m : Str → Option Value}, Paired (Rep h) vals us → ps.length = vals.length → ps.Nodup → get (ps.zip us) x = some u →
    ∃ v, bindC kindOf (ps.zip vals) m x = some v ∧ Rep h v u
  | [], _, _, _, _, _, _, e => by cases e
  | p :: ps, [], _, _, _, hl, _, _ => by cases hl
  | p :: ps, v :: vals, [], _, hp, _, _, _ => by cases hp
  | p :: ps, v :: vals, w :: us, m, hp, hl, hn, e => by
    cases hp with
    | cons f r =>
      rw [List.nodup_cons] at hn
      simp only [List.zip_cons_cons, get] at e
      simp only [List.zip_cons_cons, bindC]
      by_cases hx : x = p
      · subst hx
        rw [if_pos rfl] at e; cases e
        rw [if_neg hk]
        have skip : ∀ (ps : List Str) (vals : List Value) (m : Str → Option Value), x ∉ ps → bindC kindOf (ps.zip vals) m x = m x := by
          intro ps
          induction ps with
          | nil => intro vals m _; rfl
          | cons q qs ih =>
            intro vals m hne
            cases vals with
            | nil => rfl
            | cons y ys =>
              simp only [List.zip_cons_cons, bindC]
              rw [ih ys _ (fun h => hne (.tail _ h))]
              have : x ≠ q := fun h => hne (h ▸ .head _)
              split
              · rfl
              · exact if_neg this
        exact ⟨v, by rw [skip ps vals _ hn.1, if_pos rfl], f⟩
      · rw [if_neg hx] at e
        exact bindC_get hk r (by simpa using hl) hn.2 e

theorem cellsFrom_kind : ∀ (names : List (Str × NameKind)) (n : Nat) (acc : List (Str × Addr)) (x : Str) (c : Addr), (cellsFrom n names acc).lookup x = some c → (acc.lookup x).isSome = true ∨ (x, NameKind.cell) ∈ names
  | [], _, _, _, _, e => .inl (by unfold cellsFrom at e; rw [e]; rfl)
  | (y, kd) :: r, n, acc, x, c, e => by
    unfold cellsFrom at e
    split at e
    · rename_i hk
      rcases cellsFrom_kind r _ _ x c e with h | h
      · rw [List.lookup_cons] at h
        split at h
        · rename_i hy
          have := eq_of_beq hy
          subst this
          exact .inr (by rw [show kd = NameKind.cell from eq_of_beq hk]; exact .head _)
        · exact .inl h
      · exact .inr (.tail _ h)
    · rcases cellsFrom_kind r _ _ x c e with h | h
      · exact .inl h
      · exact .inr (.tail _ h)

section
variable {prog : Program} {w : World} {k : Nat} {β : Heap} {mg : Str → Option Value}

/-- into a def: its parameters, a new frame -/
theorem enter {A : Around} {s : Shared} {f : Addr} {ps : List Str} {scope : Scope} {body : List Stmt} {vals : List Value} {us : List V} {R : Result → Shared → Prop}
    (hA : Lv (k + 1) A) (B : Bs mg s.heap) (H : Fn s.heap f ps scope body) (hp : Paired (Rep s.heap) vals us) (hl : ps.length = us.length) (hnd : ps.Nodup)
    (hkind : ∀ p ∈ ps, scope.names.lookup p = some .local ∨ (scope.names.lookup p = some .cell ∧ ((cellsFrom (s.heap.objs.size + 1) scope.names []).lookup p).isSome = true))
    (hcell : ∀ x, (x, NameKind.cell) ∈ scope.names → scope.names.lookup x ≠ some .local)
    (q : ∀ (qual : Str) (cd : Value) (L : Addr) (h' : Heap) (t : Nat) (E : Value → Shared → Prop), L = s.heap.objs.size → Fx s.heap (fEnv scope qual cd L f) h' (ps.zip us) → Lv k (A.deeper (fEnv scope qual cd L f)) →
      wpAny (model prog w) (A.deeper (fEnv scope qual cd L f)) (execs body (fEnv scope qual cd L f)) (fun fl s' => R (.ok (.ret (match fl with | .ret v => v | _ => .none))) s') E { s with heap := h', toks := t })
    (hco : scope.isCoroutine = false := by rfl) (hgen : scope.isGenerator = false := by rfl) (hk : scope.kind = .function := by rfl) :
    codeAny (model prog w) A (.call (.ref f) ⟨vals, []⟩) R s := by
  obtain ⟨name, qual, params, dV, kV, doc, pm, an, cdv, ct, oc, od, osl, e, c, b⟩ := H
  have hlen := paired_length hp
  refine codeAny_call_function (fd := fnOf name qual params body scope dV kV doc pm an cdv ct) hA.room e rfl hco hgen rfl c (b vals (by omega) s .refl _ _ _ _ (wpAny_newFunctionEnv_cells hk (fun x hx => hkind x.1 (List.of_mem_zip hx).1) fun env he s₁ X => ?_))
  subst he
  refine ⟨B.lim.keeps X.toInCall.keep, codeAny_func ?_⟩
  obtain ⟨h', tk, rfl, hsub⟩ := X.done
  have key := q qual cdv s.heap.objs.size h' tk (fun e s' => wpAny (model prog w) (A.deeper (fEnv scope qual cdv s.heap.objs.size f)) (leaving (fEnv scope qual cdv s.heap.objs.size f) e) (fun _ s'' => R (.error e) s'') (fun e' s'' => R (.error e') s'') s') rfl ?_ hA.deeper
  · exact key
  · refine ⟨hk, rfl, rfl, hsub, get_new, fun x c hc => ?_, fun x c hc => ?_, X.apart, ⟨_, X.toInCall.ns, fun x u hu hx => ?_⟩, fun x c hc => ⟨_, X.cell x c hc, fun u hu => ?_⟩⟩
    · exact Heap.get?_none_of_le (Nat.le_of_lt (X.above x c (mem_of_lookup hc)))
    · rcases cellsFrom_kind _ _ _ _ _ hc with h | h
      · cases h
      · exact hcell x h
    · obtain ⟨v, hv, r⟩ := bindL_get (kindOf := (callEnvC (fnOf name qual params body scope dV kV doc pm an cdv ct) s.heap.objs.size f).kindOf) (m := fun _ => none) hx hp (by omega) hnd hu
      exact ⟨v, hv, rep_sub hsub r⟩
    · have hx : (callEnvC (fnOf name qual params body scope dV kV doc pm an cdv ct) s.heap.objs.size f).kindOf x ≠ some .local := by
        rcases cellsFrom_kind _ _ _ _ _ hc with h | h
        · cases h
        · exact hcell x h
      obtain ⟨v, hv, r⟩ := bindC_get (m := fun _ => none) hx hp (by omega) hnd hu
      exact ⟨v, hv, rep_sub hsub r⟩
end
end Mine

set_option Elab.async false
set_option maxRecDepth 100000
set_option linter.unusedVariables false
set_option autoImplicit false
namespace Mine
open PySem PySem.W PyProof.Rows PySem.Calls PySem.SeqAt

/-! what a comprehension's block has of the frame around it -/
def clo (env : Env) : List (Str × NameKind) → List (Str × Addr) → List (Str × Addr)
  | [], acc => acc
  | (x, kd) :: r, acc => if kd == .free then (match env.cells.lookup x with
      | some c => clo env r ((x, c) :: acc)
      | none => clo env r acc) else clo env r acc
theorem clo_in {env : Env} : ∀ {names : List (Str × NameKind)} {acc : List (Str × Addr)} {x : Str} {c : Addr}, (clo env names acc).lookup x = some c → acc.lookup x = some c ∨ (env.cells.lookup x = some c ∧ (x, NameKind.free) ∈ names)
  | [], _, _, _, e => .inl e
  | (y, kd) :: r, acc, x, c, e => by
    unfold clo at e
    split at e
    · rename_i hk
      split at e
      · rename_i c' hc
        rcases clo_in e with h | ⟨h1, h2⟩
        · rw [List.lookup_cons] at h
          split at h
          · rename_i hy
            cases h
            have := eq_of_beq hy; subst this
            exact .inr ⟨hc, by rw [show kd = NameKind.free from eq_of_beq hk]; exact .head _⟩
          · exact .inl h
        · exact .inr ⟨h1, .tail _ h2⟩
      · rcases clo_in e with h | ⟨h1, h2⟩
        · exact .inl h
        · exact .inr ⟨h1, .tail _ h2⟩
    · rcases clo_in e with h | ⟨h1, h2⟩
      · exact .inl h
      · exact .inr ⟨h1, .tail _ h2⟩
theorem closure_clo {env : Env} {scope : Scope} (h : (scope.names.all fun p => p.2 != .free || (env.cells.lookup p.1).isSome) = true) : closureFor scope env = pure (clo env scope.names []) := by
  unfold closureFor
  have key : ∀ (names : List (Str × NameKind)) (acc : List (Str × Addr)), (names.all fun p => p.2 != .free || (env.cells.lookup p.1).isSome) = true →
      (forIn names acc fun x cs => (match x with | (name, kind) => if (kind == NameKind.free) = true then do let c ← cellOf env name; pure (ForInStep.yield ((name, c) :: cs)) else pure (ForInStep.yield cs) : Sem _)) = pure (clo env names acc) := by
    intro names
    induction names with
    | nil => intro acc _; rfl
    | cons p r ih =>
      obtain ⟨x, kd⟩ := p
      intro acc hh
      rw [List.all_cons, Bool.and_eq_true] at hh
      rw [List.forIn_cons]
      unfold clo
      by_cases hk : (kd == NameKind.free) = true
      · simp only [hk, if_true]
        have h1 : (env.cells.lookup x).isSome = true := by
          have := hh.1
          rw [show kd = NameKind.free from eq_of_beq hk] at this
          simpa using this
        obtain ⟨c, hc⟩ := Option.isSome_iff_exists.mp h1
        simp only [hc]
        unfold cellOf
        rw [hc]
        exact ih _ hh.2
      · simp only [Bool.not_eq_true] at hk
        simp only [hk, Bool.false_eq_true, if_false]
        exact ih _ hh.2
  exact (congrArg (fun t : Sem (List (Str × Addr)) => t >>= fun cs => pure cs) (key scope.names [] h)).trans rfl
theorem clo_sub {env : Env} {names : List (Str × NameKind)} {x : Str} {c : Addr} (e : (clo env names []).lookup x = some c) : env.cells.lookup x = some c ∧ (x, NameKind.free) ∈ names := by
  rcases clo_in e with h | h
  · cases h
  · exact h

abbrev cEnv (scope : Scope) (C : Addr) (env : Env) : Env := compEnvC scope (clo env scope.names []) C env

inductive Subm (m : List (Str × V)) : List (Str × V) → Prop
  | nil : Subm m []
  | cons {x : Str} {u : V} {r : List (Str × V)} : get m x = some u → Subm m r → Subm m ((x, u) :: r)
theorem Subm.get {m mc : List (Str × V)} (s : Subm m mc) : ∀ {x : Str} {u : V}, Mine.get mc x = some u → Mine.get m x = some u := by
  induction s with
  | nil => intro x u e; cases e
  | cons h _ ih =>
    intro x u e
    simp only [Mine.get] at e
    split at e
    · rename_i hx; subst hx; cases e; exact h
    · exact ih e

theorem lookup_relabel {env : Env} {x : Str} : ∀ {names : List (Str × NameKind)}, (names.map fun (n, kd) => if (kd == NameKind.free && env.scope.kind == .function && env.kindOf n == some .cell) then (n, NameKind.cell) else (n, kd)).lookup x =
    (names.lookup x).map fun kd => if (kd == NameKind.free && env.scope.kind == .function && env.kindOf x == some .cell) then NameKind.cell else kd
  | [] => rfl
  | (n, kd) :: r => by
    simp only [List.map_cons]
    by_cases hx : x = n
    · subst hx
      by_cases hc : (kd == NameKind.free && env.scope.kind == .function && env.kindOf x == some .cell) = true
      · rw [if_pos hc]; simp only [List.lookup_cons, beq_self_eq_true, Option.map_some, if_pos hc]
      · rw [if_neg hc]; simp only [List.lookup_cons, beq_self_eq_true, Option.map_some, if_neg hc]
    · have hb : (x == n) = false := beq_eq_false_iff_ne.mpr hx
      by_cases hc : (kd == NameKind.free && env.scope.kind == .function && env.kindOf n == some .cell) = true
      · rw [if_pos hc]; simp only [List.lookup_cons, hb]; exact lookup_relabel
      · rw [if_neg hc]; simp only [List.lookup_cons, hb]; exact lookup_relabel

section
variable {prog : Program} {w : World} {k : Nat} {env : Env} {h h' h'' : Heap} {β : Heap} {m mc : List (Str × V)} {mg : Str → Option Value} {scope : Scope} {C : Addr}

/-- the comprehension's frame -/
theorem Fx.comp (F : Fx β env h m) (s : Subm m mc) {ml : Str → Option Value} (hn : h'.Ns C ml) (hC : h.get? C = none) (hs : ∀ b o, h.get? b = some o → h'.get? b = some o)
    (hk : scope.kind = .function) (h1 : (scope.names.all fun p => p.2 != .local || (get mc p.1).isNone) = true) (h2 : (scope.names.all fun p => p.2 != .free || scope.names.lookup p.1 == some .free) = true) (h3 : (scope.names.map (·.1)).Nodup) : Fx β (cEnv scope C env) h' mc where
  kind := hk
  glob := F.glob
  bult := F.bult
  sub := fun b o e => hs b o (F.sub b o e)
  newL := by
    cases e : β.get? C with
    | none => exact e
    | some o => have := F.sub C o e; rw [hC] at this; cases this
  newC := fun x c e => F.newC x c (clo_sub e).1
  kindC := fun x c e q => by
    have hf := (clo_sub e).2
    have := List.all_eq_true.mp h2 _ hf
    have hl : scope.names.lookup x = some .free := by simpa using this
    have q' : ((relabel scope env).names.lookup x) = some .local := q
    unfold relabel at q'
    rw [lookup_relabel, hl, Option.map_some] at q'
    split at q' <;> cases q'
  apart := by
    have key : ∀ (names : List (Str × NameKind)) (acc : List (Str × Addr)), (acc.Pairwise fun x y => x.2 ≠ y.2) → (∀ p ∈ acc, env.cells.lookup p.1 = some p.2) → (∀ p ∈ acc, ∀ q ∈ names, q.2 = NameKind.free → p.1 ≠ q.1) → (names.map (·.1)).Nodup →
        (clo env names acc).Pairwise fun x y => x.2 ≠ y.2 := by
      intro names
      induction names with
      | nil => intro acc a _ _ _; exact a
      | cons p r ih =>
        obtain ⟨x, kd⟩ := p
        intro acc a b c d
        rw [List.map_cons, List.nodup_cons] at d
        unfold clo
        split
        · rename_i hf
          split
          · rename_i cc hcc
            refine ih _ (List.pairwise_cons.mpr ⟨fun y hy e => ?_, a⟩) (fun p hp => ?_) (fun p hp q hq hqf => ?_) d.2
            · have := b y hy
              have e' : cc = y.2 := e
              have hx := name_of_addr F.apart (mem_of_lookup hcc) (e' ▸ mem_of_lookup this)
              exact c y hy (x, kd) (.head _) (eq_of_beq hf) hx.symm
            · rcases List.mem_cons.mp hp with rfl | hp
              · exact hcc
              · exact b p hp
            · rcases List.mem_cons.mp hp with rfl | hp
              · intro e; exact d.1 (List.mem_map.mpr ⟨q, hq, e.symm⟩)
              · exact c p hp q (.tail _ hq) hqf
          · exact ih _ a b (fun p hp q hq => c p hp q (.tail _ hq)) d.2
        · exact ih _ a b (fun p hp q hq => c p hp q (.tail _ hq)) d.2
    exact key scope.names [] .nil (fun _ h => nomatch h) (fun _ h => nomatch h) h3
  ns := ⟨ml, hn, fun x u e q => by
    exfalso
    have q' : ((relabel scope env).names.lookup x) = some .local := q
    unfold relabel at q'
    rw [lookup_relabel] at q'
    obtain ⟨kd, hl, e'⟩ := Option.map_eq_some_iff.mp q'
    split at e'
    · cases e'
    · subst e'
      have := List.all_eq_true.mp h1 _ (mem_of_lookup hl)
      simp [e] at this⟩
  cell := fun x c e => by
    obtain ⟨ov, i, kk⟩ := F.cell x c (clo_sub e).1
    exact ⟨ov, i.keeps hs, fun u hu => let ⟨v, a, b⟩ := kk u (s.get hu); ⟨v, a, rep_sub hs b⟩⟩
end
end Mine

set_option Elab.async false
set_option maxRecDepth 100000
set_option linter.unusedVariables false
set_option autoImplicit false
namespace Mine
open PySem PySem.W PyProof.Rows PySem.Calls PySem.SeqAt

def pk (o : Obj) : Prop := (∀ es n, o.data ≠ .dict es n) ∧ ∀ v, o.data ≠ .cell v
theorem pk_fields {o : Obj} {vs : Array Value} (e : o.data = .fields vs) : pk o := ⟨fun _ _ q => by (rw [e] at q; cases q), fun _ q => by (rw [e] at q; cases q)⟩
theorem pk_seq {o : Obj} {xs : Array Value} {n : Nat} (e : o.data = .seq xs n) : pk o := ⟨fun _ _ q => by (rw [e] at q; cases q), fun _ q => by (rw [e] at q; cases q)⟩
theorem Fx.notOwnK {β : Heap} {env : Env} {h : Heap} {m : List (Str × V)} (F : Fx β env h m) {b : Addr} {o : Obj} (ho : h.get? b = some o) (p : pk o) : ¬ Own env b := F.notOwn ho p.1 p.2

/-- an iterator over these items -/
def It (prog : Program) (w : World) (A : Around) (W : Addr → Prop) (target : Expr) (us : List V) (I : Addr) (h : Heap) : Prop :=
  ∃ (l : Addr) (P : Nat → Value → Prop) (St : Nat → Heap → Prop), ¬ W l ∧ Walks prog w A I [I, l] [I] us.length P St ∧ St 0 h ∧
    (∀ i h', St i h' → (∃ o, h'.get? I = some o ∧ pk o ∧ o.cls ≠ .type "tuple" ∧ ∃ xs, o.data = .fields xs) ∧ ∃ o, h'.get? l = some o ∧ pk o) ∧
    (∀ i v, P i v → ∃ u, us[i]? = some u ∧ ∀ h', (∀ a its, IsTup h a its → IsTup h' a its) → Rep h' v u) ∧
    (∀ i v u (s : Shared) (Q : Unit → Shared → Prop) (E : Value → Shared → Prop), St i s.heap → us[i - 1]? = some u → Rep s.heap v u → Q () s → wpAny (model prog w) A (letOwnedTupleGo target (.ref I) v) Q E s)

section
variable (prog : Program) (w : World)
def Src (k : Nat) (env : Env) (h : Heap) (W : Addr → Prop) (iter target : Expr) (us : List V) : Prop :=
  ∀ A, Lv k A → ∀ s : Shared, Gw env.locals h s.heap → ∀ (Q : Value → Shared → Prop) (E : Value → Shared → Prop),
    (∀ I h' t, Gw env.locals s.heap h' → s.heap.get? I = none → It prog w A W target us I h' → Q (.ref I) { s with heap := h', toks := t }) →
    wpAny (model prog w) A (eval iter env) (fun x s₁ => wpAny (model prog w) A (pyIter x) Q E s₁) E s
def Te (k : Nat) (env : Env) (h : Heap) (ifs : List Expr) (b : Bool) : Prop :=
  ∀ A, Lv k A → ∀ s : Shared, Gw env.locals h s.heap → ∀ (Q : Bool → Shared → Prop) (E : Value → Shared → Prop), (∀ h' t, Gw env.locals s.heap h' → Q b { s with heap := h', toks := t }) →
    wpAny (model prog w) A (forIn ifs true fun c r => if r = true then do let ok ← isTrue c env (eval c env); pure (ForInStep.yield ok) else pure (ForInStep.yield r)) Q E s
/-- a target takes an item -/
def Tk (A : Around) (env : Env) (target : Expr) (u : V) (bind : List (Str × V) → List (Str × V)) : Prop :=
  ∀ β m v (s : Shared) (Q : Unit → Shared → Prop) (E : Value → Shared → Prop), Fx β env s.heap m → Rep s.heap v u →
    (∀ h' t, Fx β env h' (bind m) → Kp env no s.heap h' → Q () { s with heap := h', toks := t }) → wpAny (model prog w) A (assign target env v) Q E s
/-- which targets a list's items may be handed to -/
def Tgt (target : Expr) (us : List V) : Prop :=
  (∃ x p, target = .Name x p) ∨ ∃ elts k p, target = .Tuple elts k p ∧ ∀ u ∈ us, ∃ g c b, u = V.tri g c b
end

section
variable {prog : Program} {w : World} {k : Nat} {env : Env} {h h' h'' : Heap} {β : Heap} {m mc : List (Str × V)} {mg : Str → Option Value} {scope : Scope}

theorem Tgt.name {x : Str} {p : Pos} {us : List V} : Tgt (.Name x p) us := .inl ⟨_, _, rfl⟩
theorem Te.nil : Te prog w k env h [] true := fun A hA s g Q E q => wpAny_tests_nil (q s.heap s.toks .refl)
theorem Te.one {c : Expr} {b : Bool} (x : Tr prog w k env h c b) : Te prog w k env h [c] b := fun A hA s g Q E q => wpAny_tests_one (x A hA s g Q E q)

theorem rep_tup {h h' : Heap} {v : Value} {u : V} (k : ∀ a its, IsTup h a its → IsTup h' a its) (r : Rep h v u) : Rep h' v u := by
  cases u <;> try exact r
  obtain ⟨a, t1, t2, e, i⟩ := r
  exact ⟨a, t1, t2, e, k _ _ i⟩
theorem fresh_ne {h : Heap} {a b : Addr} {o : Obj} (ha : h.get? a = none) (hb : h.get? b = some o) : b ≠ a := (ne_of_none_some ha hb).symm

/-- the addresses of W are in use -/
abbrev Al (W : Addr → Prop) (h : Heap) : Prop := ∀ b, W b → ∃ o, h.get? b = some o
theorem Al.gw {W : Addr → Prop} {L : Addr} {h h' : Heap} (a : Al W h) (g : Gw L h h') : Al W h' := fun b hb => let ⟨o, e⟩ := a b hb; g.alive b o e
theorem Al.not {W : Addr → Prop} {h : Heap} (a : Al W h) {b : Addr} (e : h.get? b = none) : ¬ W b := fun hb => by obtain ⟨o, q⟩ := a b hb; rw [e] at q; cases q
/-- a list with these items, none of W -/
abbrev EvW (prog : Program) (w : World) (W : Addr → Prop) (k : Nat) (env : Env) (h : Heap) (e : Expr) (us : List V) : Prop := Gr prog w k env h e fun v _ h' => ∃ l, v = .ref l ∧ Lst h' l us ∧ ¬ W l
theorem Ev.aW {W : Addr → Prop} {e : Expr} {l : Addr} {us : List V} (x : Ev prog w k env h e (.ref l)) (y : Lst h l us) (n : ¬ W l) : EvW prog w W k env h e us :=
  fun A a s g Q E q => x A a s g Q E fun v h' t g' p => q v h' t g' ⟨l, p, (g.trans g').lst y, n⟩
theorem EvL.aW {W : Addr → Prop} {e : Expr} {us : List V} (x : EvL prog w k env h e us) (a : Al W h) : EvW prog w W k env h e us :=
  fun A hA s g Q E q => x A hA s g Q E fun v h' t g' ⟨l, e1, e2, e3⟩ => q v h' t g' ⟨l, e1, e2, (a.gw g).not e3⟩
theorem EvA.ww {e : Expr} {us : List V} (x : EvA prog w k env h e us) : EvW prog w no k env h e us :=
  fun A hA s g Q E q => x A hA s g Q E fun v h' t g' ⟨l, e1, e2⟩ => q v h' t g' ⟨l, e1, e2, fun q => q⟩
theorem al_no {h : Heap} : Al no h := fun _ q => q.elim

theorem Src.list {W : Addr → Prop} {e target : Expr} {us : List V} (x : EvW prog w W k env h e us) (ht : Tgt target us) : Src prog w k env h W e target us :=
  fun A hA s g Q E q => x A hA s g _ _ fun v h1 t1 g1 ⟨l, e1, xl, nW⟩ => by
    subst e1
    obtain ⟨vs, n, il, p⟩ := xl
    have isl : h1.IsList l vs.toArray := ⟨_, il, rfl, n, rfl⟩
    refine wpAny_pyIter_list isl (q _ _ t1 (g1.trans (Gw.push _)) (g1.fresh get_new) ?_)
    have hne : l ≠ h1.objs.size := fresh_ne get_new il
    have hI : (h1.push { cls := .type "list_iterator", data := .fields #[.ref l, .int 0 0] }).get? h1.objs.size = some ({ cls := .type "list_iterator", data := .fields #[.ref l, .int 0 0] } : Obj) := Heap.get?_push_size _ rfl
    refine ⟨l, fun i v => vs.toArray[i]? = some v, fun i h => h.IsListIter h1.objs.size l i ∧ h.IsList l vs.toArray, nW, ?_, ⟨⟨_, hI, rfl, rfl⟩, isl.push _⟩, fun i h' st => ?_, fun i v hv => ?_, fun i v u s Q E st hu r hQ => ?_⟩
    · have := Walks.list (prog := prog) (w := w) (A := A) hA.hand h1.objs.size l hne vs.toArray
      have e : vs.toArray.size = us.length := by rw [List.size_toArray, paired_length p]
      exact e ▸ this
    · obtain ⟨o, ho, hc, hd⟩ := st.1
      obtain ⟨o', ho', hc', n', hd'⟩ := st.2
      exact ⟨⟨o, ho, pk_fields hd, fun q => by rw [hc] at q; injection q with q; exact absurd q (by decide), _, hd⟩, o', ho', pk_seq hd'⟩
    · have hv' : vs[i]? = some v := by simpa using hv
      obtain ⟨u, hu, r⟩ := paired_get' p hv'
      exact ⟨u, hu, fun h2 kk => rep_tup kk ((Gw.push (L := 0) _).rep r)⟩
    · rcases ht with ⟨x, p, rfl⟩ | ⟨elts, kk, p, rfl, hall⟩
      · exact wpAny_pure hQ
      · obtain ⟨g, c, b, rfl⟩ := hall u (List.mem_of_getElem? hu)
        obtain ⟨a, t1, t2, rfl, _⟩ := r
        exact wpAny_letOwnedTupleGo_listiter st.1 hQ

def upto (a : Int) (n : Nat) : List V := (List.range n).map fun (i : Nat) => V.int (a + (i : Int))
theorem upto_get {a : Int} {n i : Nat} (hi : i < n) : (upto a n)[i]? = some (.int (a + (i : Int))) := by simp [upto, hi]
theorem upto_length {a : Int} {n : Nat} : (upto a n).length = n := by simp [upto]
theorem it_range {W' : Addr → Prop} {A : Around} {h : Heap} {a : Int} {n : Nat} {x : Str} {p : Pos} (hh : A.handled = none) (hal : Al W' h) : It prog w A W' (.Name x p) (upto a n) h.objs.size (h.push { cls := .type "range_iterator", data := .fields #[rawInt a, rawInt (n : Int), rawInt 1] }) := by
  have hI : (h.push { cls := .type "range_iterator", data := .fields #[rawInt a, rawInt (n : Int), rawInt 1] }).get? h.objs.size = some ({ cls := .type "range_iterator", data := .fields #[rawInt a, rawInt (n : Int), rawInt 1] } : Obj) := Heap.get?_push_size _ rfl
  have W := Walks.range (prog := prog) (w := w) (A := A) hh h.objs.size a 1 n
  have hl : (upto a n).length = n := upto_length
  refine ⟨h.objs.size, fun i v => i < n ∧ ∃ t, v = .int (a + (i : Nat) * 1) t, fun i h' => IsRangeIter h' h.objs.size (a + (i : Nat) * 1) ((n : Int) - (i : Nat)) 1, hal.not get_new, ?_, ?_, fun i h' st => ?_, fun i v hv => ?_, fun i v u s Q E st hu r hQ => wpAny_pure hQ⟩
  · rw [hl]
    exact { sub := fun b hb => List.mem_cons_of_mem _ hb, frame := fun i h1 h2 st hk => W.frame i h1 h2 st fun b hb o e => hk b (List.mem_cons_of_mem _ hb) o e,
            item := fun i s Q E hi st hQ => W.item i s Q E hi st fun v h' tk hP => hQ v h' tk ⟨hi, hP⟩, done := W.done, self := W.self }
  · show IsRangeIter _ _ _ _ _
    rw [show a + ((0 : Nat) : Int) * 1 = a by omega, show (n : Int) - ((0 : Nat) : Int) = n by omega]
    exact hI
  · have e : h'.get? h.objs.size = _ := st
    exact ⟨⟨_, e, pk_fields rfl, (fun q => by injection q with q; exact absurd q (by decide)), _, rfl⟩, _, e, pk_fields rfl⟩
  · obtain ⟨hi, t, rfl⟩ := hv
    exact ⟨_, upto_get hi, fun h' _ => ⟨t, by rw [Int.mul_one]⟩⟩

theorem range_to {W : Addr → Prop} {a b : Int} {t u : Tok} {A : Around} {r : Addr} {s : Shared} {x : Str} {p : Pos} {c : Tok} {Q : Value → Shared → Prop} {E : Value → Shared → Prop} (hA : A.handled = none) (hal : Al W s.heap) (hr : IsRange s.heap r a b 1 t u c) (hab : a ≤ b) (ha : -1000000 ≤ a) (hb : b ≤ 1000000)
    (q : ∀ I h', Gw env.locals s.heap h' → s.heap.get? I = none → It prog w A W (.Name x p) (upto a (b - a).toNat) I h' → Q (.ref I) { s with heap := h' }) : wpAny (model prog w) A (pyIter (.ref r)) Q E s := by
  refine wpAny_pyIter_range hr (small_one (by omega) (by omega) (by omega) (by omega)) (q _ _ (Gw.push _) get_new ?_)
  have e : Builtin.Range.rangeSize a b 1 = (((b - a).toNat : Nat) : Int) := by rw [rangeSize_one]; split <;> omega
  rw [e]
  exact it_range hA hal
theorem Src.range1 {W : Addr → Prop} (hal : Al W h) {e : Expr} {p pos p2 : Pos} {x : Str} {n : Nat} (F : Fx β env h m) (B : Bs mg β) (hx : env.kindOf "range" = some .globalImplicit) (hv : mg "range" = none) (a : Ev prog w k env h e (.int n)) (hn : n ≤ 1000000)
    (he : starEach [e] env = [(false, eval e env)] := by rfl) : Src prog w k env h W (.Call (.Name "range" p) [e] [] pos) (.Name x p2) (upto 0 n) :=
  fun A hA s g Q E q => by
    refine Gr.call1 (P' := fun v _ h' => ∃ r t u c, v = .ref r ∧ IsRange h' r 0 n 1 t u c) F B hx hv boot_range (.inr ⟨_, rfl⟩) a (fun A hA s g v h₀ ⟨t, e1⟩ Q E q => by
      subst e1
      exact call_range_1 (q _ _ _ (Gw.push _) fun _ _ => ⟨_, _, _, _, rfl, IsRange.new ..⟩)) he (by decide) (by decide) A hA s g _ _ fun v h1 t1 g1 ⟨r, t, u, c, e1, hr⟩ => ?_
    subst e1
    refine range_to (x := x) (p := p2) (s := { s with heap := h1, toks := t1 }) hA.hand ((hal.gw g).gw g1) hr (by omega) (by omega) (by omega) fun I h2 g2 hI it => q I h2 _ (g1.trans g2) (g1.fresh hI) ?_
    rwa [show ((n : Int) - 0).toNat = n by omega] at it
theorem Src.range2 {W : Addr → Prop} (hal : Al W h) {e e' : Expr} {p pos p2 : Pos} {x : Str} {i j : Int} (F : Fx β env h m) (B : Bs mg β) (hx : env.kindOf "range" = some .globalImplicit) (hv : mg "range" = none) (a : Ar prog w k env h [e, e'] [.int i, .int j]) (hij : i ≤ j) (hi : -1000000 ≤ i) (hj : j ≤ 1000000)
    (he : starEach [e, e'] env = (false, eval e env) :: starEach [e'] env := by rfl) (he' : (backTo pos (starEach [e'] env)).any (·.1) = false := by rfl) : Src prog w k env h W (.Call (.Name "range" p) [e, e'] [] pos) (.Name x p2) (upto i (j - i).toNat) :=
  fun A hA s g Q E q => by
    refine Call_Name rfl (name_built (F.gw g) B hx hv boot_range ?_ (by decide) (by decide))
    refine PyProof.Rows.callWith_type1 (a A hA s g pos _ _ fun vs h1 t1 g1 pp => ?_) he he'
    cases pp with
    | cons f1 pp => cases pp with
      | cons f2 pp =>
        cases pp
        obtain ⟨ta, rfl⟩ := f1
        obtain ⟨tb, rfl⟩ := f2
        refine call_range_2 ?_
        exact range_to (x := x) (p := p2) (s := { s with heap := _, toks := _ }) hA.hand (((hal.gw g).gw g1).gw (L := env.locals) (Gw.push _)) (IsRange.new ..) hij hi hj fun I h2 g2 hI it => q I h2 _ (g1.trans ((Gw.push _).trans g2)) (g1.fresh ((Gw.push (L := env.locals) _).fresh hI)) it
theorem Src.tup {W : Addr → Prop} (hal : Al W h) {a b : Expr} {kk : Nat} {pos : Pos} {target : Expr} {u v : V} (x : Ar prog w k env h [a, b] [u, v]) (ht : ∃ x p, target = .Name x p) : Src prog w k env h W (.Tuple [a, b] kk pos) target [u, v] :=
  fun A hA s g Q E q => Tuple_ (x A hA s g _ _ _ fun vs h1 t1 g1 p => by
    refine wpAny_newObj_type ?_ (by show vs.toArray.size ≤ sizeLine; rw [List.size_toArray, paired_length p, sizeLine_eq]; simp)
    have hT : (h1.push ({ cls := .type "tuple", data := .seq vs.toArray } : Obj)).IsTuple h1.objs.size vs.toArray := ⟨_, Heap.get?_push_size _ rfl, rfl, 0, rfl⟩
    refine wpAny_pyIter_tuple hT ?_
    generalize hh2 : h1.push ({ cls := .type "tuple", data := .seq vs.toArray } : Obj) = h2 at hT
    have g2 : Gw env.locals h1 h2 := hh2 ▸ Gw.push _
    show Q (.ref h2.objs.size) { s with heap := h2.push _, toks := t1 }
    refine q _ _ t1 ((g1.trans g2).trans (Gw.push _)) ((g1.trans g2).fresh get_new) ?_
    have hI : (h2.push { cls := .type "tuple_iterator", data := .fields #[.ref h1.objs.size, .int 0 0] }).get? h2.objs.size = some ({ cls := .type "tuple_iterator", data := .fields #[.ref h1.objs.size, .int 0 0] } : Obj) := Heap.get?_push_size _ rfl
    have hne : h1.objs.size ≠ h2.objs.size := by obtain ⟨o, ho, _⟩ := hT; exact fresh_ne get_new ho
    refine ⟨h1.objs.size, fun i v => vs.toArray[i]? = some v, fun i h => h.IsTupleIter h2.objs.size h1.objs.size i ∧ h.IsTuple h1.objs.size vs.toArray, ((hal.gw g).gw g1).not get_new, ?_, ⟨⟨_, hI, rfl, rfl⟩, hT.push _⟩, fun i h' st => ?_, fun i v hv => ?_, fun i v u s Q E st hu r hQ => ?_⟩
    · have := Walks.tuple (prog := prog) (w := w) (A := A) hA.hand h2.objs.size h1.objs.size hne vs.toArray
      have e : vs.toArray.size = [u, v].length := by rw [List.size_toArray, paired_length p]
      exact e ▸ this
    · obtain ⟨o, ho, hc, hd⟩ := st.1
      obtain ⟨o', ho', hc', n', hd'⟩ := st.2
      exact ⟨⟨o, ho, pk_fields hd, (fun q => by rw [hc] at q; injection q with q; exact absurd q (by decide)), _, hd⟩, o', ho', pk_seq hd'⟩
    · have hv' : vs[i]? = some v := by simpa using hv
      obtain ⟨u, hu, r⟩ := paired_get' p hv'
      exact ⟨u, hu, fun h2 kk => rep_tup kk ((Gw.push (L := 0) _).rep (g2.rep r))⟩
    · obtain ⟨x, p, rfl⟩ := ht
      exact wpAny_pure hQ)
end
end Mine

set_option Elab.async false
set_option maxRecDepth 100000
set_option linter.unusedVariables false
set_option autoImplicit false
namespace Mine
open PySem PySem.W PyProof.Rows PySem.Calls PySem.SeqAt

section
variable {prog : Program} {w : World} {k : Nat} {env : Env} {h h' h'' : Heap} {β : Heap} {m mc : List (Str × V)} {mg : Str → Option Value} {scope : Scope} {W' : Addr → Prop}

theorem Fx.sw {W : Addr → Prop} (F : Fx β env h m) (kp : ∀ b o, ¬ W b → h.get? b = some o → h'.get? b = some o)
    (hW : ∀ b, W b → ¬ Own env b ∧ β.get? b = none ∧ ∀ its, ¬ IsTup h b its) : Fx β env h' m where
  kind := F.kind
  glob := F.glob
  bult := F.bult
  sub := fun b o e => kp b o (fun hb => by rw [(hW b hb).2.1] at e; cases e) (F.sub b o e)
  newL := F.newL
  newC := F.newC
  kindC := F.kindC
  apart := F.apart
  ns := let ⟨ml, n, q⟩ := F.ns; ⟨ml, n.at' fun o e => kp _ o (fun hb => (hW _ hb).1 (.inl rfl)) e, fun x u e f => let ⟨v, a, b⟩ := q x u e f; ⟨v, a, rep_tup (fun a its ⟨o, e, c, n, d⟩ => ⟨o, kp a o (fun hb => (hW a hb).2.2 its ⟨o, e, c, n, d⟩) e, c, n, d⟩) b⟩⟩
  cell := fun x c e => let ⟨ov, ⟨o, ho, hd⟩, q⟩ := F.cell x c e
    ⟨ov, ⟨o, kp c o (fun hb => (hW c hb).1 (.inr ⟨x, e⟩)) ho, hd⟩, fun u f => let ⟨v, a, b⟩ := q u f; ⟨v, a, rep_tup (fun a its ⟨o, e, c, n, d⟩ => ⟨o, kp a o (fun hb => (hW a hb).2.2 its ⟨o, e, c, n, d⟩) e, c, n, d⟩) b⟩⟩

/-- a store into a local variable -/
theorem storeL {A : Around} {s : Shared} {x : Str} {v : Value} {u : V} {Q : Unit → Shared → Prop} {E : Value → Shared → Prop} (F : Fx β env s.heap m) (hl : env.kindOf x = some .local) (r : Rep s.heap v u)
    (q : ∀ h' t, Fx β env h' (put m x u) → (∀ b o, b ≠ env.locals → s.heap.get? b = some o → h'.get? b = some o) → Q () { s with heap := h', toks := t }) : wpAny (model prog w) A (storeName env x v) Q E s := by
  obtain ⟨ml, n, kk⟩ := F.ns
  refine wpAny_storeName_local hl n (fun h' hn hs => ?_) (by rw [F.kind]; rfl)
  have kp : ∀ b o, b ≠ env.locals → s.heap.get? b = some o → h'.get? b = some o := fun b o hb e => (hs.2 b hb).trans e
  have tk : ∀ a its, IsTup s.heap a its → IsTup h' a its := fun a its ⟨o, e, c, n', d⟩ => ⟨o, kp a o (fun hb => by
    obtain ⟨o', es, ep, ho', hd', _⟩ := n; rw [hb, ho'] at e; cases e; rw [hd'] at d; cases d) e, c, n', d⟩
  refine q h' _ { F with sub := fun b o e => kp b o (fun hb => F.notOwnβ e (.inl hb)) (F.sub b o e), ns := ⟨_, hn, fun y u' e hk => ?_⟩, cell := fun y c hy => ?_ } kp
  · rw [get_put] at e
    by_cases hy : y = x
    · rw [if_pos hy] at e ⊢; cases e; exact ⟨v, rfl, rep_tup tk r⟩
    · rw [if_neg hy] at e ⊢; obtain ⟨v', a, b⟩ := kk y u' e hk; exact ⟨v', a, rep_tup tk b⟩
  · obtain ⟨ov, i, kk⟩ := F.cell y c hy
    obtain ⟨o, ho, hd⟩ := id i
    have hcL : c ≠ env.locals := fun e => by
      obtain ⟨o', es, ep, ho', hd', _⟩ := n
      rw [e] at ho; rw [ho] at ho'; cases ho'; rw [hd] at hd'; cases hd'
    refine ⟨ov, i.sameBut hs hcL, fun u' e => ?_⟩
    rw [get_put] at e
    by_cases hyx : y = x
    · exact absurd hl (F.kindC x c (hyx ▸ hy))
    · rw [if_neg hyx] at e
      obtain ⟨v', a, b⟩ := kk u' e
      exact ⟨v', a, rep_tup tk b⟩

/-- a target of local names takes an item -/
def TkL (prog : Program) (w : World) (A : Around) (env : Env) (target : Expr) (u : V) (bind : List (Str × V) → List (Str × V)) : Prop :=
  ∀ β m v (s : Shared) (Q : Unit → Shared → Prop) (E : Value → Shared → Prop), Fx β env s.heap m → Rep s.heap v u →
    (∀ h' t, Fx β env h' (bind m) → (∀ b o, b ≠ env.locals → s.heap.get? b = some o → h'.get? b = some o) → Q () { s with heap := h', toks := t }) → wpAny (model prog w) A (assign target env v) Q E s
theorem TkL.name {A : Around} {x : Str} {p : Pos} {u : V} (hl : env.kindOf x = some .local) : TkL prog w A env (.Name x p) u (fun m => put m x u) :=
  fun β m v s Q E F r q => wpAny_assign_Name (storeL F hl r q)
theorem TkL.tri {A : Around} {x y z : Str} {p1 p2 p3 pos : Pos} {kk : Nat} {g c : Int} {b : Bool} (hA : A.handled = none) (hx : env.kindOf x = some .local) (hy : env.kindOf y = some .local) (hz : env.kindOf z = some .local) :
    TkL prog w A env (.Tuple [.Name x p1, .Name y p2, .Name z p3] kk pos) (.tri g c b) (fun m => put (put (put m x (.int g)) y (.int c)) z (.bool b)) :=
  fun β m v s Q E F r q => by
    obtain ⟨a, t1, t2, rfl, it⟩ := r
    refine wpAny_assign_Tuple hA it rfl rfl fun h1 ext => ?_
    have kp1 : ∀ b o, s.heap.get? b = some o → h1.get? b = some o := fun b o e => ext b o (fun hb => by rw [hb, get_new] at e; cases e) e
    show wpAny (model prog w) A (assignInOrder [assign (.Name x p1) env, assign (.Name y p2) env, assign (.Name z p3) env] [.int g t1, .int c t2, .bool b]) _ _ _
    refine assignInOrder_cons (wpAny_assign_Name (storeL (s := { s with heap := h1 }) (F.gw (.ofSub kp1)) hx (u := .int g) ⟨_, rfl⟩ fun h2 t2 F2 k2 => ?_))
    refine assignInOrder_cons (wpAny_assign_Name (storeL F2 hy (u := .int c) ⟨_, rfl⟩ fun h3 t3 F3 k3 => ?_))
    refine assignInOrder_cons (wpAny_assign_Name (storeL F3 hz (u := .bool b) rfl fun h4 t4 F4 k4 => assignInOrder_nil ?_))
    exact q _ _ F4 fun b o hb e => k4 b o hb (k3 b o hb (k2 b o hb (kp1 b o e)))

/-- the objects that are not of P are as they were -/
abbrev But (P : Addr → Prop) (h h' : Heap) : Prop := ∀ b o, ¬ P b → h.get? b = some o → h'.get? b = some o

/-- the block of a list comprehension -/
theorem comp_walk {A : Around} {s : Shared} {elt iter target : Expr} {ifs : List Expr} {pos : Pos} {I : Addr} {us : List V} {E : Value → Shared → Prop} {RR : Value → Addr → Result → Shared → Prop} (hA : Lv k A)
    (F : Fx β env s.heap m) (sm : Subm m mc) (it : It prog w A W' target us I s.heap) (hI : β.get? I = none) (hlen : us.length ≤ 1000)
    (bind : Nat → List (Str × V) → List (Str × V)) (hb : ∀ i x u, Mine.get mc x = some u → Mine.get (bind i mc) x = some u)
    (hT : ∀ C i u, us[i]? = some u → TkL prog w A (cEnv scope C env) target u (bind i))
    (p : Nat → Bool) (P : Nat → Value → Heap → Heap → Prop) (J : (Addr → Prop) → Nat → Heap → List Value → Prop)
    (turn : ∀ C i h3, s.heap.get? C = none → But (· = I) s.heap h3 → Fx β (cEnv scope C env) h3 (bind i mc) → i < us.length →
      Te prog w k (cEnv scope C env) h3 ifs (p i) ∧ (p i = true → Gr prog w k (cEnv scope C env) h3 elt (P i)))
    (J0 : ∀ bad h', J bad 0 h' [])
    (Jk : ∀ bad i h1 h2 ys, But bad h1 h2 → J bad i h1 ys → J bad i h2 ys)
    (Js : ∀ bad i h1 h2 ys v, (∀ b, bad b → ∃ o, h1.get? b = some o) → (∀ b its, bad b → ¬ IsTup h2 b its) → i < us.length → p i = true → P i v h1 h2 → But bad h1 h2 → J bad i h1 ys → J bad i h2 ys → J bad (i + 1) h2 (ys ++ [v]))
    (Jn : ∀ bad i h1 ys, p i = false → J bad i h1 ys → J bad (i + 1) h1 ys)
    (hk : scope.kind = .function) (hcell : ∀ y ∈ scope.names, y.2 ≠ .cell) (h1 : (scope.names.all fun p => p.2 != .local || (Mine.get mc p.1).isNone) = true) (h2 : (scope.names.all fun p => p.2 != .free || scope.names.lookup p.1 == some .free) = true) (h3 : (scope.names.map (·.1)).Nodup)
    (hRR : ∀ D C h' tk ys n bad, s.heap.get? D = none → s.heap.get? C = none → D ≠ C → (∃ m', h'.Ns C m') → h'.get? D = some (listOf ys.toArray n) → bad C → J bad us.length h' ys → But (· = I) s.heap h' →
      RR (.ref D) C (.ok .next) { s with heap := h', toks := tk }) :
    wpAny (model prog w) A (newList []) (fun acc s₃ => wpAny (model prog w) A (newFunctionEnv scope env.globals (clo env scope.names []) [] env.qual none .none (some env)) (fun cenv s₄ =>
      codeAny (model prog w) A (.compStart (.ListComp elt [⟨target, iter, ifs, 0⟩] scope pos) 0 (.ref I) acc { cenv with scope := relabel scope env }) (RR acc cenv.locals) s₄) E s₃) E s := by
  obtain ⟨l, PP, St, nWl, W, st0, hpk, hrp, hgo⟩ := it
  refine wpAny_newObj_type (wpAny_newFunctionEnv hcell (by intro y hy; simp at hy) (fun h₁ hns₁ hsb₁ => ?_) hk)
  dsimp only at hns₁ hsb₁ ⊢
  generalize hH2 : s.heap.push { cls := .type "list", dict := none, data := .seq ([] : List Value).toArray } = H2 at hns₁ hsb₁ ⊢
  have hC : H2.objs.size = s.heap.objs.size + 1 := by rw [← hH2, Heap.size_push]
  generalize hDD : s.heap.objs.size = D at hC ⊢
  generalize hCC : H2.objs.size = C at hC hns₁ hsb₁ ⊢
  have hDf : s.heap.get? D = none := Heap.get?_none_of_le (by omega)
  have hCf : s.heap.get? C = none := Heap.get?_none_of_le (by omega)
  have hDC : D ≠ C := by omega
  have old : ∀ b o, s.heap.get? b = some o → h₁.get? b = some o := fun b o e => hsb₁.extBut b o (fresh_ne hCf e) (Heap.get?_push_of_some _ (hH2 ▸ Heap.get?_push_of_some _ e))
  have hacc : h₁.PlainList D #[] := ⟨0, hsb₁.extBut _ _ hDC (Heap.get?_push_of_some _ (by rw [← hH2, ← hDD]; exact Heap.get?_push_size _ rfl))⟩
  obtain ⟨⟨oI, hoI, hpI, -⟩, ol, hol, hpl⟩ := hpk _ _ st0
  have hIC : I ≠ C := fresh_ne hCf hoI
  have hID : I ≠ D := fresh_ne hDf hoI
  have hlC : l ≠ C := fresh_ne hCf hol
  have hlD : l ≠ D := fresh_ne hDf hol
  have Fc : Fx β (cEnv scope C env) h₁ mc := F.comp sm hns₁ hCf old hk h1 h2 h3
  have ownL : ∀ b, Own (cEnv scope C env) b → b = C ∨ (Own env b ∧ ∃ o, s.heap.get? b = some o) := fun b hb => by
    rcases hb with rfl | ⟨x, hx⟩
    · exact .inl rfl
    · have := (clo_sub hx).1
      obtain ⟨ov, ⟨o, ho, _⟩, _⟩ := F.cell x b this
      exact .inr ⟨.inr ⟨x, this⟩, o, ho⟩
  have nI : ¬ Own (cEnv scope C env) I := fun hb => by
    rcases ownL I hb with e | ⟨hb, _⟩
    · exact hIC e
    · exact F.notOwnK hoI hpI hb
  have nD : ¬ Own (cEnv scope C env) D := fun hb => by
    rcases ownL D hb with e | ⟨_, o, ho⟩
    · exact hDC e
    · rw [hDf] at ho; cases ho
  have βD : β.get? D = none := by
    cases e : β.get? D with
    | none => rfl
    | some o => have := F.sub D o e; rw [hDf] at this; cases this
  let bad : Addr → Prop := fun b => b = I ∨ b = C ∨ b = D
  refine codeAny_compStart_list (it := .ref I) ?_ (W.self 0 _ _ _ (W.frame _ _ _ st0 fun b _ o e => old b o e) ?_) <;>
  · show codeAny (model prog w) A (.compLoop (.ListComp elt [⟨target, iter, ifs, 0⟩] scope pos) 0 (.ref I) (.ref D) (cEnv scope C env)) (RR (.ref D) C) _
    refine codeAny_loop rfl (fun n s' => ∃ h' tk ys i, s' = { s with heap := h', toks := tk } ∧ n = us.length + 1 - i ∧ i ≤ us.length ∧ ys.length ≤ i ∧ Fx β (cEnv scope C env) h' mc ∧ St i h' ∧ h'.PlainList D ys.toArray ∧ J bad i h' ys ∧ But (· = I) s.heap h')
      ?_ (us.length + 1) ⟨h₁, _, [], 0, rfl, rfl, Nat.zero_le _, Nat.le_refl _, Fc, W.frame _ _ _ st0 fun b _ o e => old b o e, hacc, J0 _ _, fun b o _ e => old b o e⟩
    rintro n s' ⟨h', tk, ys, i, rfl, hn, hi, hys, F', st', hacc', hJ, hbut⟩
    show wpAny _ A ((compTurn (.ListComp elt [⟨target, iter, ifs, 0⟩] scope pos) 0 (.ref I) (.ref D) (cEnv scope C env)).onRaise (fun x => do noteFrame x (cEnv scope C env); theTreesLotGoes x)) _ _ _
    refine wpAny_noted ?_
    rw [compTurn_list]
    refine wpAny_bind (wpAny_standAt (wpAny_bind ?_))
    by_cases hlt : i < us.length
    · refine W.item i _ _ _ hlt st' fun v h4 t4 hP st4 k4 => ?_
      have k4 : But (· = I) h' h4 := fun b o hb e => k4 b o (fun hm => hb (List.mem_singleton.mp hm)) e
      obtain ⟨u, hu, hr⟩ := hrp i v hP
      have nt : ∀ {hh : Heap}, But (· = I) s.heap hh → ∀ a its, IsTup s.heap a its → IsTup hh a its := fun bb a its ⟨o, e, c, n, d⟩ => ⟨o, bb a o (fun q => by
        obtain ⟨⟨oo, ho, _, hc, _⟩, _⟩ := hpk _ _ st0
        rw [q, ho] at e; cases e; exact hc c) e, c, n, d⟩
      have b4 : But (· = I) s.heap h4 := fun b o hb e => k4 b o hb (hbut b o hb e)
      have F4 : Fx β (cEnv scope C env) h4 mc := F'.sw k4 fun b hb => by
        subst hb
        refine ⟨nI, hI, fun its ⟨o, ho, c, _⟩ => ?_⟩
        obtain ⟨⟨oo, ho', _, hc, _⟩, _⟩ := hpk _ _ st'
        rw [ho'] at ho; cases ho; exact hc c
      refine wpAny_bind (hgo (i + 1) v u _ _ _ st4 hu (hr _ (nt b4)) ?_)
      refine wpAny_bind (hT C i u hu β mc v _ _ _ F4 (hr _ (nt b4)) fun h5 t5 F5 k5 => ?_)
      have k5 : ∀ b o, b ≠ C → h4.get? b = some o → h5.get? b = some o := k5
      have b5 : But (· = I) s.heap h5 := fun b o hb e => k5 b o (fresh_ne hCf e) (b4 b o hb e)
      obtain ⟨T, EL⟩ := turn C i h5 hCf b5 F5 hlt
      have st5 : St (i + 1) h5 := W.frame _ _ _ st4 fun b hb o e => k5 b o (by
        rcases List.mem_cons.mp hb with rfl | hb
        · exact hIC
        · rw [List.mem_singleton.mp hb]; exact hlC) e
      have F5' := F5.less (hb i)
      refine wpAny_bind (T A hA _ .refl _ _ fun h6 t6 g6 => ?_)
      have F6 := F5'.gw g6
      have st6 : St (i + 1) h6 := W.frame _ _ _ st5 fun b hb o e => g6.keep b o (by
        rcases List.mem_cons.mp hb with rfl | hb
        · exact hIC
        · rw [List.mem_singleton.mp hb]; exact hlC) e
      have acc6 : h6.PlainList D ys.toArray := hacc'.at fun o e => g6.keep D o hDC (k5 D o hDC (k4 D o (Ne.symm hID) e))
      have b6 : But (· = I) s.heap h6 := fun b o hb e => g6.keep b o (fresh_ne hCf e) (b5 b o hb e)
      have J6 : J bad i h6 ys := Jk _ _ _ _ _ (fun b o hb e => g6.keep b o (fun q => hb (.inr (.inl q))) (k5 b o (fun q => hb (.inr (.inl q))) (k4 b o (fun q => hb (.inl q)) e))) hJ
      cases hp : p i with
      | false =>
        exact wpAny_pure ⟨rfl, us.length + 1 - (i + 1), by omega, h6, _, ys, i + 1, rfl, rfl, hlt, by omega, F6, st6, acc6, Jn _ _ _ _ hp J6, b6⟩
      | true =>
        refine wpAny_bind (wpAny_bind (EL hp A hA _ g6 _ _ fun y h7 t7 g7 P7 => wpAny_bind ?_))
        have acc7 : h7.PlainList D ys.toArray := acc6.at fun o e => g7.keep D o hDC e
        refine wpAny_list_append_plain (hsz := by rw [List.size_toArray, sizeLine_eq]; omega) acc7 fun h8 acc8 s8 => wpAny_pure (wpAny_pure ⟨rfl, us.length + 1 - (i + 1), by omega, h8, _, ys ++ [y], i + 1, rfl, rfl, hlt, by rw [List.length_append]; simp; omega, ?_, ?_, ?_, ?_, ?_⟩)
        · refine (F6.gw g7).sw (W := (· = D)) (fun b o hb e => s8.extBut b o hb e) fun b hb => ?_
          subst hb
          refine ⟨nD, βD, fun its ⟨o, ho, c, _⟩ => ?_⟩
          obtain ⟨nn, hnn⟩ := acc7
          rw [hnn] at ho; cases ho; injection c with q; exact absurd q (by decide)
        · refine W.frame _ _ _ st6 fun b hb o e => s8.extBut b o ?_ (g7.keep b o ?_ e) <;> rcases List.mem_cons.mp hb with rfl | hb
          · exact hID
          · rw [List.mem_singleton.mp hb]; exact hlD
          · exact hIC
          · rw [List.mem_singleton.mp hb]; exact hlC
        · obtain ⟨nn, hnn⟩ := acc8
          exact ⟨nn, by rw [hnn]; simp⟩
        · refine Jk _ _ h7 _ _ (fun b o hb e => s8.extBut b o (fun q => hb (.inr (.inr q))) e) (Js _ _ h6 h7 _ _ (fun b hb => ?_) (fun b its hb ⟨ot, et, ct, nt', dt⟩ => ?_) hlt hp P7 (fun b o hb e => g7.keep b o (fun q => hb (.inr (.inl q))) e) J6 (Jk _ _ _ _ _ (fun b o hb e => g7.keep b o (fun q => hb (.inr (.inl q))) e) J6))
          · rcases hb with rfl | rfl | rfl
            · obtain ⟨⟨o, ho, _⟩, _⟩ := hpk _ _ st6; exact ⟨o, ho⟩
            · obtain ⟨mm, ⟨o, es, ep, ho, _⟩, _⟩ := F6.ns; exact ⟨o, ho⟩
            · obtain ⟨nn, hnn⟩ := acc6; exact ⟨_, hnn⟩
          · rcases hb with rfl | rfl | rfl
            · have st7 : St (i + 1) h7 := W.frame _ _ _ st6 fun b hb o e => g7.keep b o (by
                rcases List.mem_cons.mp hb with rfl | hb
                · exact hIC
                · rw [List.mem_singleton.mp hb]; exact hlC) e
              obtain ⟨⟨o', ho, _, hc, _⟩, _⟩ := hpk _ _ st7
              rw [ho] at et; cases et; exact hc ct
            · obtain ⟨mm, ⟨o', es, ep, ho, hd, _⟩, _⟩ := (F6.gw g7).ns
              have e9 : some o' = some ot := ho.symm.trans et
              cases e9
              rw [hd] at dt; cases dt
            · obtain ⟨nn, hnn⟩ := acc7
              rw [hnn] at et; cases et; injection ct with q; exact absurd q (by decide)
        · exact fun b o hb e => s8.extBut b o (fresh_ne hDf e) (g7.keep b o (fresh_ne hCf e) (b6 b o hb e))
    · have e : i = us.length := by omega
      subst e
      refine W.done _ _ _ st' fun h4 t4 k4 => ?_
      have k4 : But (· = I) h' h4 := fun b o hb e => k4 b o (fun hm => hb (List.mem_singleton.mp hm)) e
      obtain ⟨mm, hmm, _⟩ := F'.ns
      obtain ⟨nn, hnn⟩ := hacc'.at fun o e => k4 D o (Ne.symm hID) e
      exact wpAny_pure (hRR D C h4 t4 ys nn bad hDf hCf hDC ⟨mm, hmm.at' fun o e => k4 C o (Ne.symm hIC) e⟩ hnn (.inr (.inl rfl)) (Jk _ _ _ _ _ (fun b o hb e => k4 b o (fun q => hb (.inl q)) e) hJ) fun b o hb e => k4 b o hb (hbut b o hb e))

/-- the items that pass, by their places -/
def picked (p : Nat → Bool) (f : Nat → V) : Nat → List V
  | 0 => []
  | n + 1 => picked p f n ++ (if p n then [f n] else [])
theorem picked_length {p : Nat → Bool} {f : Nat → V} : ∀ {n : Nat}, (picked p f n).length ≤ n
  | 0 => Nat.le_refl _
  | n + 1 => by
    have := picked_length (p := p) (f := f) (n := n)
    simp only [picked, List.length_append]
    split <;> simp <;> omega

/-- a value that is none of the bad addresses' tuples -/
def RepN (bad : Addr → Prop) (h : Heap) (v : Value) (u : V) : Prop := Rep h v u ∧ ∀ g c b a, u = .tri g c b → v = .ref a → ¬ bad a
theorem RepN.keep {bad : Addr → Prop} {h h' : Heap} {v : Value} {u : V} (k : But bad h h') (r : RepN bad h v u) : RepN bad h' v u := by
  refine ⟨?_, r.2⟩
  obtain ⟨r, n⟩ := r
  cases u <;> try exact r
  obtain ⟨a, t1, t2, rfl, o, e, cc, nn, d⟩ := r
  exact ⟨a, t1, t2, rfl, o, k a o (n _ _ _ a rfl rfl) e, cc, nn, d⟩

def compOk (scope : Scope) (env : Env) (mc : List (Str × V)) : Bool :=
  scope.kind == .function && (scope.names.all fun p => p.2 != .local || (Mine.get mc p.1).isNone) && (scope.names.all fun p => p.2 != .free || scope.names.lookup p.1 == some .free) &&
  (scope.names.all fun p => p.2 != .local || scope.names.lookup p.1 == some .local) && (scope.names.all fun p => p.2 != .cell) && (scope.names.all fun p => p.2 != .free || (env.cells.lookup p.1).isSome)

theorem Gw.iter {L I : Addr} {h s s2 h3 : Heap} (g : Gw L h s) (g2 : Gw L s s2) (hI : s.get? I = none) (b : But (· = I) s2 h3) : Gw L h h3 where
  keep := fun x o hx e => b x o (fun q => by have := g.keep x o hx e; rw [q, hI] at this; cases this) (g2.keep x o hx (g.keep x o hx e))
  own := fun o d e => b L o (fun q => by have := g.own o d e; rw [q, hI] at this; cases this) (g2.own o d (g.own o d e))
  ns := fun m x => by
    have := g.ns m x
    have h2 := g2.ns m this
    obtain ⟨o, _, _, e, _⟩ := this
    exact h2.at' fun o' e' => b L o' (fun q => by rw [q, hI] at e; cases e) e'
  alive := fun x o e => by
    obtain ⟨o1, e1⟩ := g.alive x o e
    obtain ⟨o2, e2⟩ := g2.alive x o1 e1
    exact ⟨o2, b x o2 (fun q => by rw [q, hI] at e1; cases e1) e2⟩

theorem comp_src {elt iter target : Expr} {ifs : List Expr} {pos : Pos} {us : List V} {A : Around} {s : Shared} {E : Value → Shared → Prop} {use : Option (Value → Sem Unit)} {Q : Value → Shared → Prop} (cpos : Pos) (hA : Lv k A)
    (F : Fx β env s.heap m) (sm : Subm m mc) (src : Src prog w k env s.heap W' iter target us) (hlen : us.length ≤ 1000)
    (bind : Nat → List (Str × V) → List (Str × V)) (hb : ∀ i x u, Mine.get mc x = some u → Mine.get (bind i mc) x = some u)
    (hT : ∀ C i u, us[i]? = some u → TkL prog w A (cEnv scope C env) target u (bind i))
    (p : Nat → Bool) (P : Nat → Value → Heap → Heap → Prop) (J : (Addr → Prop) → Nat → Heap → List Value → Prop)
    (turn : ∀ C i h3, s.heap.get? C = none → Gw env.locals s.heap h3 → Fx β (cEnv scope C env) h3 (bind i mc) → i < us.length →
      Te prog w k (cEnv scope C env) h3 ifs (p i) ∧ (p i = true → Gr prog w k (cEnv scope C env) h3 elt (P i)))
    (J0 : ∀ bad h', J bad 0 h' [])
    (Jk : ∀ bad i h1 h2 ys, But bad h1 h2 → J bad i h1 ys → J bad i h2 ys)
    (Js : ∀ bad i h1 h2 ys v, (∀ b, bad b → ∃ o, h1.get? b = some o) → (∀ b its, bad b → ¬ IsTup h2 b its) → i < us.length → p i = true → P i v h1 h2 → But bad h1 h2 → J bad i h1 ys → J bad i h2 ys → J bad (i + 1) h2 (ys ++ [v]))
    (Jn : ∀ bad i h1 ys, p i = false → J bad i h1 ys → J bad (i + 1) h1 ys)
    (hok : compOk scope env mc = true) (h3 : (scope.names.map (·.1)).Nodup)
    (hR : ∀ D C h' tk ys n bad, s.heap.get? D = none → s.heap.get? C = none → D ≠ C → (∃ m', h'.Ns C m') → h'.get? D = some (listOf ys.toArray n) → bad C → J bad us.length h' ys → Gw env.locals s.heap h' →
      compPost (model prog w) A E use Q (.ref D) C (.ok .next) { s with heap := h', toks := tk })
    (hs : ∀ x, foldedSetIterable iter env x = pure x := by intro _; rfl) :
    wpAny (model prog w) A (comprehension (.ListComp elt [⟨target, iter, ifs, 0⟩] scope pos) scope env cpos (newList []) false (eval iter env) use) Q E s := by
  simp only [compOk, Bool.and_eq_true, beq_iff_eq] at hok
  obtain ⟨⟨⟨⟨⟨ok1, ok2⟩, ok3⟩, ok4⟩, ok5⟩, ok6⟩ := hok
  refine wpAny_comprehension_free rfl hs (closure_clo ok6) ok1 (fun x hx hl => ?_) ?_
  · have := List.all_eq_true.mp ok4 x hx
    rw [hl] at this
    simpa using this
  · refine src A hA s .refl _ _ fun I h2 t2 g2 hI it => ?_
    have βI : β.get? I = none := by
      cases e : β.get? I with
      | none => rfl
      | some o => have := F.sub I o e; rw [hI] at this; cases this
    refine comp_walk (s := { s with heap := h2, toks := t2 }) (RR := fun acc C => compPost (model prog w) A E use Q acc C) hA (F.gw g2) sm it βI hlen bind hb hT p P J (fun C i h4 hC b F4 hi => turn C i h4 (g2.fresh hC) (Gw.iter .refl g2 hI b) F4 hi) J0 Jk Js Jn ok1 (fun y hy q => ?_) ok2 ok3 h3 ?_
    · have := List.all_eq_true.mp ok5 y hy
      rw [q] at this; cases this
    · intro D C h' tk ys n bad hD hC hDC hn hl hbad hJ b
      exact hR D C h' tk ys n bad (g2.fresh hD) (g2.fresh hC) hDC hn hl hbad hJ (Gw.iter .refl g2 hI b)

/-- a comprehension's list of pure items -/
structure Comp (prog : Program) (w : World) (k : Nat) (env : Env) (β h : Heap) (scope : Scope) (mc : List (Str × V)) (target elt : Expr) (ifs : List Expr) (us : List V) (bind : Nat → List (Str × V) → List (Str × V)) (p : Nat → Bool) (f : Nat → V) : Prop where
  hb : ∀ i x u, Mine.get mc x = some u → Mine.get (bind i mc) x = some u
  hT : ∀ A C i u, Lv k A → us[i]? = some u → TkL prog w A (cEnv scope C env) target u (bind i)
  turn : ∀ C i h3, h.get? C = none → Gw env.locals h h3 → Fx β (cEnv scope C env) h3 (bind i mc) → i < us.length →
      Te prog w k (cEnv scope C env) h3 ifs (p i) ∧ (p i = true → Ev prog w k (cEnv scope C env) h3 elt (f i))

theorem comp_pure {elt iter target : Expr} {ifs : List Expr} {pos cpos : Pos} {us : List V} {A : Around} {s : Shared} {E : Value → Shared → Prop} {use : Option (Value → Sem Unit)} {Q : Value → Shared → Prop} (hA : Lv k A)
    (F : Fx β env s.heap m) (sm : Subm m mc) (src : Src prog w k env s.heap W' iter target us) (hlen : us.length ≤ 1000) {bind : Nat → List (Str × V) → List (Str × V)} {p : Nat → Bool} {f : Nat → V} (g : Gw env.locals h s.heap)
    (c : Comp prog w k env β h scope mc target elt ifs us bind p f)
    (hok : compOk scope env mc = true) (h3 : (scope.names.map (·.1)).Nodup)
    (hR : ∀ D C h' tk, s.heap.get? D = none → s.heap.get? C = none → D ≠ C → (∃ m', h'.Ns C m') → (∀ h'', But (fun b => b = C ∨ b = env.locals) h' h'' → Lst h'' D (picked p f us.length)) → Gw env.locals s.heap h' →
      compPost (model prog w) A E use Q (.ref D) C (.ok .next) { s with heap := h', toks := tk })
    (hs : ∀ x, foldedSetIterable iter env x = pure x := by intro _; rfl) :
    wpAny (model prog w) A (comprehension (.ListComp elt [⟨target, iter, ifs, 0⟩] scope pos) scope env cpos (newList []) false (eval iter env) use) Q E s := by
  refine comp_src cpos hA F sm src hlen bind c.hb (fun C i u hu => c.hT A C i u hA hu) p (fun i v _ h' => Rep h' v (f i)) (fun bad i h ys => Paired (RepN bad h) ys (picked p f i))
    (fun C i h4 hC g4 F4 hi => c.turn C i h4 (g.fresh hC) (g.trans g4) F4 hi) (fun _ _ => .nil) (fun bad i h1 h2 ys b j => paired_mono (fun _ _ => RepN.keep b) j) (fun bad i h1 h2 ys v ha ht hi hp r _ _ j => ?_) (fun bad i h1 ys hp j => ?_) hok h3 ?_ hs
  · simp only [picked, hp, if_true]
    refine paired_append j (.cons ⟨r, fun g c b a e1 e2 hb => ?_⟩ .nil)
    rw [e1] at r
    obtain ⟨a', t1, t2, e3, i3⟩ := r
    rw [e2] at e3; cases e3
    exact ht _ _ hb i3
  · simp only [picked, hp, Bool.false_eq_true, if_false, List.append_nil]; exact j
  · intro D C h' tk ys n bad hD hC hDC hn hl _ hJ g'
    obtain ⟨mm, hmm⟩ := hn
    obtain ⟨_, ⟨oL, eL, epL, hoL, hdL, _⟩, _⟩ := (F.gw g').ns
    have hDL : D ≠ env.locals := by
      rintro rfl
      obtain ⟨_, ⟨o, _, _, ho, _⟩, _⟩ := F.ns
      rw [hD] at ho; cases ho
    refine hR D C h' tk hD hC hDC ⟨mm, hmm⟩ (fun h'' b => ⟨ys, n, b D _ (fun q => q.elim hDC hDL) hl, paired_mono (fun v u (r : RepN bad h' v u) => rep_tup (fun a its ⟨o, e, c, n', d⟩ => ⟨o, b a o (fun q => ?_) e, c, n', d⟩) r.1) hJ⟩) g'
    rcases q with q | q
    · obtain ⟨o', es, ep, ho, hd, _⟩ := hmm
      rw [q] at e
      cases ho.symm.trans e
      rw [hd] at d; cases d
    · rw [q] at e
      cases hoL.symm.trans e
      rw [hdL] at d; cases d

theorem EvL.comp {elt iter target : Expr} {ifs : List Expr} {pos : Pos} {us : List V} (F : Fx β env h m) (sm : Subm m mc) (src : Src prog w k env h W' iter target us) (hlen : us.length ≤ 1000)
    {bind : Nat → List (Str × V) → List (Str × V)} {p : Nat → Bool} {f : Nat → V} (c : Comp prog w k env β h scope mc target elt ifs us bind p f)
    (hok : compOk scope env mc = true) (h3 : (scope.names.map (·.1)).Nodup) (hs : ∀ x, foldedSetIterable iter env x = pure x := by intro _; rfl) :
    EvL prog w k env h (.ListComp elt [⟨target, iter, ifs, 0⟩] scope pos) (picked p f us.length) :=
  fun A hA s g Q E q => by
    rw [eval_ListComp]
    refine comp_pure (use := none) (h := h) hA (F.gw g) sm (fun A hA s' g' Q E q => src A hA s' (g.trans g') Q E q) hlen g c hok h3 ?_ hs
    intro D C h' tk hD hC hDC hn hl g'
    refine ⟨hn.choose, hn.choose_spec, fun h'' hs => q _ _ tk ?_ ⟨D, rfl, hl h'' fun b o hb e => hs.extBut b o (fun q => hb (.inl q)) e, hD⟩⟩
    have hCs : ∀ b o, s.heap.get? b = some o → b ≠ C := fun b o e => fresh_ne hC e
    exact ⟨fun b o hb e => hs.extBut b o (hCs b o e) (g'.keep b o hb e), fun o d e => hs.extBut _ o (hCs _ o e) (g'.own o d e), fun m x => by
      have := g'.ns m x
      obtain ⟨o, _, _, e, _⟩ := x
      exact this.at' fun o' e' => hs.extBut _ o' (hCs _ o e) e', fun b o e => by obtain ⟨o', e'⟩ := g'.alive b o e; exact ⟨o', hs.extBut b o' (hCs b o e) e'⟩⟩

/-- x = [ .. for .. ] -/
theorem assignComp {elt iter target : Expr} {ifs : List Expr} {pos spos py : Pos} {y : Str} {us : List V} {A : Around} {s : Shared} {E : Value → Shared → Prop} {Q : Flow → Shared → Prop} (hA : Lv k A)
    (F : Fx β env s.heap m) (sm : Subm m mc) (src : Src prog w k env s.heap W' iter target us) (hlen : us.length ≤ 1000)
    {bind : Nat → List (Str × V) → List (Str × V)} {p : Nat → Bool} {f : Nat → V} (c : Comp prog w k env β s.heap scope mc target elt ifs us bind p f)
    (hy : env.kindOf y = some .local) (hok : compOk scope env mc = true) (h3 : (scope.names.map (·.1)).Nodup)
    (q : ∀ D h' t, Fx β env h' (put m y (.ref D)) → (∀ b o, b ≠ env.locals → s.heap.get? b = some o → h'.get? b = some o) → Lst h' D (picked p f us.length) → s.heap.get? D = none → Q .next { s with heap := h', toks := t })
    (hsw : swapsWith (.ListComp elt [⟨target, iter, ifs, 0⟩] scope pos) (some (.Name y py)) spos.line env = pure true := by rfl) (hs : ∀ x, foldedSetIterable iter env x = pure x := by intro _; rfl) :
    wpAny (model prog w) A (exec (.Assign [.Name y py] (.ListComp elt [⟨target, iter, ifs, 0⟩] scope pos) spos) env) Q E s := by
  rw [exec_Assign_Name_used _ _ _ _ hsw]
  refine wpAny_bind (wpAny_standAt (wpAny_bind ?_))
  show wpAny _ A (do let _ ← comprehension (.ListComp elt [⟨target, iter, ifs, 0⟩] scope pos) scope env _ (newList []) false (eval iter env) (some (assign (.Name y py) env))) _ _ s
  refine wpAny_bind (wpAny_mono (comp_pure (use := some (assign (.Name y py) env)) (Q := fun _ s' => Q .next s') hA F sm src hlen .refl c hok h3 ?_ hs) (fun _ s' hq => wpAny_pure (wpAny_pure hq)) fun _ _ e => e)
  intro D C h' tk hD hC hDC hn hl g'
  obtain ⟨mm, hmm⟩ := hn
  show wpAny _ A (assign (.Name y py) env (.ref D)) _ _ _
  refine wpAny_assign_Name (storeL (s := { s with heap := h', toks := tk }) (F.gw g') hy (u := .ref D) rfl fun h4 t4 F4 k4 => ?_)
  have hLC : C ≠ env.locals := by
    rintro rfl
    obtain ⟨_, ⟨o, _, _, ho, _⟩, _⟩ := F.ns
    rw [hC] at ho; cases ho
  refine ⟨mm, hmm.at' fun o e => k4 C o hLC e, fun h5 hs5 => ?_⟩
  have k5 : But (· = C) h4 h5 := fun b o hb e => hs5.extBut b o hb e
  refine q D h5 t4 (F4.sw k5 fun b hb => ?_) (fun b o hb e => k5 b o (fresh_ne hC e) (k4 b o hb (g'.keep b o hb e))) ?_ hD
  · subst hb
    refine ⟨fun ho => ?_, ?_, fun its ⟨o, ho, hc, n, d⟩ => ?_⟩
    · obtain ⟨o, ho, _⟩ := F.ownKind ho
      rw [hC] at ho; cases ho
    · cases e : β.get? b with
      | none => rfl
      | some o => have := F.sub b o e; rw [hC] at this; cases this
    · obtain ⟨o', es, ep, ho', hd, _⟩ := hmm.at' fun o e => k4 b o hLC e
      cases ho'.symm.trans ho
      rw [hd] at d; cases d
  · exact hl h5 fun b o hb e => k5 b o (fun q => hb (.inl q)) (k4 b o (fun q => hb (.inr q)) e)
end
end Mine

set_option Elab.async false
set_option maxRecDepth 100000
set_option linter.unusedVariables false
set_option autoImplicit false
namespace Mine
open PySem PySem.W PyProof.Rows PySem.Calls PySem.SeqAt

section
variable {prog : Program} {w : World} {k : Nat} {env : Env} {h h' h'' : Heap} {β β' : Heap} {m mc : List (Str × V)} {mg : Str → Option Value} {scope : Scope}

theorem Fx.lower (F : Fx β' env h m) (s : Sub β β') : Fx β env h m :=
  { F with sub := fun b o e => F.sub b o (s b o e)
           newL := by
             cases e : β.get? env.locals with
             | none => rfl
             | some o => have := s _ _ e; rw [F.newL] at this; cases this
           newC := fun x c hc => by
             cases e : β.get? c with
             | none => rfl
             | some o => have := s _ _ e; rw [F.newC x c hc] at this; cases this }
/-- a new base: all of the heap but the frame's own and W -/
theorem Fx.base (F : Fx β env h m) (W : Addr → Prop) (hW : ∀ b, W b → β.get? b = none) : ∃ β', Sub β β' ∧ Fx β' env h m ∧ (∀ b, W b → β'.get? b = none) ∧ ∀ b o, ¬ Own env b → ¬ W b → h.get? b = some o → β'.get? b = some o := by
  have key : ∀ b, (Own env b ∨ W b) → (hideP (fun b => Own env b ∨ W b) h).get? b = none := fun b hb => by rw [get_hideP]; exact if_pos hb
  have key2 : ∀ b o, ¬ Own env b → ¬ W b → h.get? b = some o → (hideP (fun b => Own env b ∨ W b) h).get? b = some o := fun b o h1 h2 e => by
    rw [get_hideP, if_neg (fun q => q.elim h1 h2)]; exact e
  refine ⟨hideP (fun b => Own env b ∨ W b) h, fun b o e => key2 b o (F.notOwnβ e) (fun q => by rw [hW b q] at e; cases e) (F.sub b o e),
    { F with sub := fun b o e => by rw [get_hideP] at e; split at e; cases e; exact e, newL := key _ (.inl (.inl rfl)), newC := fun x c hc => key _ (.inl (.inr ⟨x, hc⟩)) }, fun b hb => key b (.inr hb), key2⟩

section
variable {A : Around} {s : Shared} {Q : Flow → Shared → Prop} {E : Value → Shared → Prop} {rest body orelse : List Stmt} {pos : Pos}

theorem x_nil (q : Q .next s) : wpAny (model prog w) A (execs [] env) Q E s := wpAny_execs_nil q
theorem x_if {test : Expr} {b : Bool} (hA : Lv k A) (x : Tr prog w k env s.heap test b)
    (qt : b = true → ∀ h' t, Gw env.locals s.heap h' → wpAny (model prog w) A (execs body env) (fun f s' => match f with | .next => wpAny (model prog w) A (execs rest env) Q E s' | f => Q f s') E { s with heap := h', toks := t })
    (qf : b = false → ∀ h' t, Gw env.locals s.heap h' → wpAny (model prog w) A (execs orelse env) (fun f s' => match f with | .next => wpAny (model prog w) A (execs rest env) Q E s' | f => Q f s') E { s with heap := h', toks := t }) :
    wpAny (model prog w) A (execs (.If test body orelse pos :: rest) env) Q E s :=
  wpAny_execs_cons (wpAny_If (x A hA s .refl _ _ fun h1 t1 g1 => by
    cases b with
    | true => exact qt rfl h1 t1 g1
    | false => exact qf rfl h1 t1 g1))
theorem x_assign {y : Str} {py : Pos} {value : Expr} {u : V} (hA : Lv k A) (F : Fx β env s.heap m) (hv : isVar env y) (x : Ev prog w k env s.heap value u)
    (q : ∀ h' t, Fx β env h' (put m y u) → Kp env no s.heap h' → wpAny (model prog w) A (execs rest env) Q E { s with heap := h', toks := t })
    (hs : swapsWith value (some (.Name y py)) pos.line env = pure false := by rfl) : wpAny (model prog w) A (execs (.Assign [.Name y py] value pos :: rest) env) Q E s :=
  wpAny_execs_cons (wpAny_Assign_Name (x A hA s .refl _ _ fun v h1 t1 g1 r => store (s := { s with heap := h1, toks := t1 }) (F.gw g1) hv r fun h2 t2 F2 k2 => q h2 t2 F2 ((Kp.ofGw g1).trans k2)) hs)
/-- a new object, kept by a new base -/
theorem x_assignN {y : Str} {py : Pos} {value : Expr} {P : Value → Heap → Heap → Prop} (hA : Lv k A) (F : Fx β env s.heap m) (hv : isVar env y) (x : Gr prog w k env s.heap value fun v h₀ h' => ∃ a, v = .ref a ∧ P (.ref a) h₀ h')
    (q : ∀ a h1 h' t, Gw env.locals s.heap h1 → P (.ref a) s.heap h1 → Fx β env h1 m → Fx β env h' (put m y (.ref a)) → Kp env no h1 h' → wpAny (model prog w) A (execs rest env) Q E { s with heap := h', toks := t })
    (hs : swapsWith value (some (.Name y py)) pos.line env = pure false := by rfl) : wpAny (model prog w) A (execs (.Assign [.Name y py] value pos :: rest) env) Q E s :=
  wpAny_execs_cons (wpAny_Assign_Name (x A hA s .refl _ _ fun v h1 t1 g1 ⟨a, e, r⟩ => by
    subst e
    exact store (s := { s with heap := h1, toks := t1 }) (u := .ref a) (F.gw g1) hv rfl fun h2 t2 F2 k2 => q a h1 h2 t2 g1 r (F.gw g1) F2 k2) hs)
theorem x_assignL {y : Str} {py : Pos} {value : Expr} {us : List V} (hA : Lv k A) (F : Fx β env s.heap m) (hv : isVar env y) (x : EvL prog w k env s.heap value us)
    (q : ∀ l h' t, s.heap.get? l = none → Lst h' l us → Fx β env h' (put m y (.ref l)) → Kp env no s.heap h' → wpAny (model prog w) A (execs rest env) Q E { s with heap := h', toks := t })
    (hs : swapsWith value (some (.Name y py)) pos.line env = pure false := by rfl) : wpAny (model prog w) A (execs (.Assign [.Name y py] value pos :: rest) env) Q E s :=
  x_assignN (P := fun v h₀ h' => ∃ l, v = Value.ref l ∧ Lst h' l us ∧ h₀.get? l = none) hA F hv (x.mono fun v h₀ h' ⟨l, e, r, f⟩ => ⟨l, e, l, rfl, r, f⟩)
    (fun a h1 h2 t2 g1 ⟨l, e, r, f⟩ F1 F2 k2 => by cases e; exact q a h2 t2 f (Kp.lst F1 k2 r) F2 ((Kp.ofGw g1).trans k2)) hs
theorem x_ret {e : Expr} {P : Value → Heap → Heap → Prop} (hA : Lv k A) (x : Gr prog w k env s.heap e P) (q : ∀ v h' t, Gw env.locals s.heap h' → P v s.heap h' → Q (.ret v) { s with heap := h', toks := t }) :
    wpAny (model prog w) A (execs (.Return (some e) pos :: rest) env) Q E s := wpAny_execs_cons (wpAny_Return_some (x A hA s .refl _ _ q))
theorem x_ret0 (q : Q (.ret .none) s) : wpAny (model prog w) A (execs (.Return none pos :: rest) env) Q E s := wpAny_execs_cons (wpAny_Return_none q)
theorem x_brk (q : Q .brk s) : wpAny (model prog w) A (execs (.Break pos :: rest) env) Q E s := wpAny_execs_cons (wpAny_Break q)

theorem x_while {test : Expr} (hA : Lv k A) (F : Fx β env s.heap m) (J : Nat → Heap → List (Str × V) → Prop) (n : Nat) (J0 : J n s.heap m)
    (turn : ∀ n h1 m1 E', Fx β env h1 m1 → J n h1 m1 → ∃ b, Tr prog w k env h1 test b ∧
      (b = true → ∀ h2 t2, Gw env.locals h1 h2 → wpAny (model prog w) A (execs body env) (fun f s' => match f with
        | .next | .cont => ∃ n' h3 t3 m3, n' < n ∧ s' = { s with heap := h3, toks := t3 } ∧ Fx β env h3 m3 ∧ J n' h3 m3
        | .brk => wpAny (model prog w) A (execs rest env) Q E s'
        | .ret v => Q (.ret v) s') E' { s with heap := h2, toks := t2 }) ∧
      (b = false → ∀ h2 t2, Gw env.locals h1 h2 → wpAny (model prog w) A (execs rest env) Q E { s with heap := h2, toks := t2 })) :
    wpAny (model prog w) A (execs (.While test body [] pos :: rest) env) Q E s := by
  refine wpAny_execs_cons (wpAny_While ?_)
  refine codeAny_whileLoop (fun n s' => ∃ h1 t1 m1, s' = { s with heap := h1, toks := t1 } ∧ Fx β env h1 m1 ∧ J n h1 m1) ?_ n ⟨s.heap, s.toks, m, rfl, F, J0⟩
  rintro n s' ⟨h1, t1, m1, rfl, F1, J1⟩
  obtain ⟨b, x, qt, qf⟩ := turn n h1 m1 (notedBy (model prog w) A env fun e s' => cameBackBy (model prog w) A env E e s') F1 J1
  refine x A hA _ .refl _ _ fun h2 t2 g2 => ?_
  cases b with
  | true =>
    refine wpAny_mono (qt rfl h2 t2 g2) (fun f s3 hf => ?_) fun _ _ e => e
    cases f with
    | next => obtain ⟨n', h3, t3, m3, hn, rfl, F3, J3⟩ := hf; exact ⟨n', hn, h3, t3, m3, rfl, F3, J3⟩
    | cont => obtain ⟨n', h3, t3, m3, hn, rfl, F3, J3⟩ := hf; exact ⟨n', hn, h3, t3, m3, rfl, F3, J3⟩
    | brk => exact hf
    | ret v => exact hf
  | false => exact wpAny_execs_nil (qf rfl h2 t2 g2)

/-- what a loop over an iterator keeps: all but the frame's own and the iterators -/
def Kf (env : Env) (h h' : Heap) : Prop := ∀ b o, ¬ Own env b → (∀ xs, o.data ≠ .fields xs) → h.get? b = some o → h'.get? b = some o

theorem for_core {target iter : Expr} {us : List V} {I : Addr} {R : Result → Shared → Prop} {E : Value → Shared → Prop} (hA : Lv k A) (F : Fx β env s.heap m) (W : Addr → Prop) (it : It prog w A W target us I s.heap) (hI : β.get? I = none)
    (bind : Nat → List (Str × V) → List (Str × V)) (hT : ∀ i u, us[i]? = some u → TkL prog w A env target u (bind i))
    (hW : ∀ b, W b → β.get? b = none) (J : Nat → Heap → List (Str × V) → Prop)
    (hWJ : ∀ i h1 m1 b, J i h1 m1 → W b → ∃ o, h1.get? b = some o ∧ ((∃ es n, o.data = .dict es n) ∨ (o.cls = .type "list" ∧ ∃ xs n, o.data = .seq xs n)))
    (J0 : J 0 s.heap m) (Jk : ∀ i h1 h2 m1, Fx β env h1 m1 → Kf env h1 h2 → J i h1 m1 → J i h2 m1)
    (turn : ∀ i h1 t1 m1 β1 E', i < us.length → Sub β β1 → (∀ b, W b → β1.get? b = none) → (∀ b o, ¬ Own env b → ¬ W b → h1.get? b = some o → β1.get? b = some o) → Fx β1 env h1 (bind i m1) → J i h1 m1 →
      wpAny (model prog w) A (execs body env) (fun f s' => match f with
        | .next | .cont => ∃ h3 t3 m3, s' = { s with heap := h3, toks := t3 } ∧ Fx β1 env h3 m3 ∧ J (i + 1) h3 m3
        | .brk => R (.ok .next) s'
        | .ret v => R (.ok (.ret v)) s') E' { s with heap := h1, toks := t1 })
    (done : ∀ h1 t1 m1, Fx β env h1 m1 → J us.length h1 m1 → R (.ok .next) { s with heap := h1, toks := t1 }) :
    codeAny (model prog w) A (.forLoop target (.ref I) body [] env) R s := by
  obtain ⟨l, PP, St, nWl, Wk, st0, hpk, hrp, hgo⟩ := it
  obtain ⟨⟨oI, hoI, hpI, hcI, xsI, hxI⟩, ol, hol, hpl⟩ := hpk _ _ st0
  have nI : ¬ Own env I := F.notOwnK hoI hpI
  have nl : ¬ Own env l := F.notOwnK hol hpl
  refine codeAny_forLoop_any (fun n s' => ∃ h1 t1 m1 i, s' = { s with heap := h1, toks := t1 } ∧ n = us.length + 1 - i ∧ i ≤ us.length ∧ Fx β env h1 m1 ∧ St i h1 ∧ J i h1 m1 ∧ ∀ a its, IsTup s.heap a its → IsTup h1 a its)
    ?_ (us.length + 1) ⟨s.heap, s.toks, m, 0, rfl, rfl, Nat.zero_le _, F, st0, J0, fun _ _ x => x⟩
  rintro n s' ⟨h1, t1, m1, i, rfl, hn, hi, F1, st1, J1, T1⟩
  have nItup : ∀ its, ¬ IsTup h1 I its := fun its ⟨o, ho, hc, _⟩ => by
    obtain ⟨⟨o', ho', _, hc', _⟩, _⟩ := hpk _ _ st1
    rw [ho'] at ho; cases ho; exact hc' hc
  have nIf : ∀ o, h1.get? I = some o → ∃ xs, o.data = .fields xs := fun o ho => by
    obtain ⟨⟨o', ho', _, _, hf⟩, _⟩ := hpk _ _ st1
    rw [ho'] at ho; cases ho; exact hf
  by_cases hlt : i < us.length
  · refine Wk.item i _ _ _ hlt st1 fun v h2 t2 hP st2 k2 => ?_
    have k2 : But (· = I) h1 h2 := fun b o hb e => k2 b o (fun hm => hb (List.mem_singleton.mp hm)) e
    obtain ⟨u, hu, hr⟩ := hrp i v hP
    have T2 : ∀ a its, IsTup s.heap a its → IsTup h2 a its := fun a its x => by
      have y := T1 a its x
      obtain ⟨o, e, c, n, d⟩ := id y
      exact ⟨o, k2 a o (fun q => nItup its (q ▸ y)) e, c, n, d⟩
    have F2 : Fx β env h2 m1 := F1.sw k2 fun b hb => by subst hb; exact ⟨nI, hI, nItup⟩
    refine hgo (i + 1) v u _ _ _ st2 hu (hr h2 T2) ?_
    refine hT i u hu β m1 v _ _ _ F2 (hr h2 T2) fun h3 t3 F3 k3 => ?_
    have k3' : Kf env h1 h3 := fun b o ho hf e => k3 b o (fun q => ho (.inl q)) (k2 b o (fun q => by
      obtain ⟨xs, hx⟩ := nIf o (q ▸ e)
      exact hf xs hx) e)
    have J3 : J i h3 m1 := Jk i h1 h3 m1 F1 k3' J1
    have T3 : ∀ a its, IsTup s.heap a its → IsTup h3 a its := fun a its x => by
      obtain ⟨o, e, c, n, d⟩ := T2 a its x
      exact ⟨o, k3 a o (fun q => by
        obtain ⟨ml, ⟨o', es, ep, ho', hd', _⟩, _⟩ := F2.ns
        rw [q, ho'] at e; cases e; rw [hd'] at d; cases d) e, c, n, d⟩
    have st3 : St (i + 1) h3 := Wk.frame _ _ _ st2 fun b hb o e => k3 b o (fun q => by
      rcases List.mem_cons.mp hb with rfl | hb
      · exact nI (.inl q)
      · rw [List.mem_singleton.mp hb] at q; exact nl (.inl q)) e
    obtain ⟨β1, s1, F3', w1, all1⟩ := F3.base W hW
    refine wpAny_mono (turn i h3 t3 m1 β1 _ hlt s1 w1 all1 F3' J3) (fun f s4 hf => ?_) fun _ _ e => e
    have fin : (∃ h4 t4 m4, s4 = { s with heap := h4, toks := t4 } ∧ Fx β1 env h4 m4 ∧ J (i + 1) h4 m4) → ∃ n', n' < n ∧ ∃ h1 t1 m1 i, s4 = { s with heap := h1, toks := t1 } ∧ n' = us.length + 1 - i ∧ i ≤ us.length ∧ Fx β env h1 m1 ∧ St i h1 ∧ J i h1 m1 ∧ ∀ a its, IsTup s.heap a its → IsTup h1 a its := by
      rintro ⟨h4, t4, m4, rfl, F4, J4⟩
      have kW : ∀ b o, ¬ Own env b → (¬ W b) → h3.get? b = some o → h4.get? b = some o := fun b o h1 h2 e => F4.sub b o (all1 b o h1 h2 e)
      refine ⟨us.length + 1 - (i + 1), by omega, h4, t4, m4, i + 1, rfl, rfl, hlt, F4.lower s1, Wk.frame _ _ _ st3 fun b hb o e => ?_, J4, fun a its x => ?_⟩
      · obtain ⟨⟨oI, hoI, _, _, xs, hx⟩, _⟩ := hpk _ _ st3
        rcases List.mem_cons.mp hb with rfl | hb
        · refine kW b o nI (fun q => ?_) e
          obtain ⟨o', ho', ht⟩ := hWJ _ _ _ _ J3 q
          rw [hoI] at ho'; cases ho'
          rcases ht with ⟨es, n, e⟩ | ⟨_, ys, n, e⟩ <;> rw [hx] at e <;> cases e
        · have hbl := List.mem_singleton.mp hb
          rw [hbl] at e ⊢
          exact kW l o nl nWl e
      · obtain ⟨o, e, c, n, d⟩ := T3 a its x
        refine ⟨o, kW a o (F3.notOwn e (fun _ _ q => by rw [d] at q; cases q) (fun _ q => by rw [d] at q; cases q)) (fun q => ?_) e, c, n, d⟩
        obtain ⟨o', ho', ht⟩ := hWJ _ _ _ _ J3 q
        rw [ho'] at e; cases e
        rcases ht with ⟨es, n, e⟩ | ⟨hc, _⟩
        · rw [d] at e; cases e
        · rw [c] at hc; injection hc with hc; exact absurd hc (by decide)
    cases f with
    | next => exact fin hf
    | cont => exact fin hf
    | brk => exact hf
    | ret v => exact hf
  · have e : i = us.length := by omega
    subst e
    refine Wk.done _ _ _ st1 fun h4 t4 k4 => wpAny_execs_nil ?_
    have k4 : But (· = I) h1 h4 := fun b o hb e => k4 b o (fun hm => hb (List.mem_singleton.mp hm)) e
    exact done h4 t4 m1 (F1.sw k4 fun b hb => by subst hb; exact ⟨nI, hI, nItup⟩) (Jk _ _ _ _ F1 (fun b o ho hf e => k4 b o (fun q => by
      obtain ⟨xs, hx⟩ := nIf o (q ▸ e)
      exact hf xs hx) e) J1)
end
end
end Mine

set_option Elab.async false
set_option maxRecDepth 100000
set_option linter.unusedVariables false
set_option autoImplicit false
namespace Mine
open PySem PySem.W PyProof.Rows PySem.Calls PySem.SeqAt

/-- the objects of W are dicts or lists, in use -/
def Wok (W : Addr → Prop) (h : Heap) : Prop := ∀ b, W b → ∃ o, h.get? b = some o ∧ ((∃ es n, o.data = .dict es n) ∨ (o.cls = .type "list" ∧ ∃ xs n, o.data = .seq xs n))
/-- the objects of W are as they were -/
def KW (W : Addr → Prop) (h h' : Heap) : Prop := ∀ b o, W b → h.get? b = some o → h'.get? b = some o
theorem KW.refl {W : Addr → Prop} {h : Heap} : KW W h h := fun _ _ _ e => e
theorem KW.trans {W : Addr → Prop} {h h' h'' : Heap} (a : KW W h h') (b : KW W h' h'') : KW W h h'' := fun x o n e => b x o n (a x o n e)
theorem Wok.kw {W : Addr → Prop} {h h' : Heap} (x : Wok W h) (k : KW W h h') : Wok W h' := fun b hb => let ⟨o, e, r⟩ := x b hb; ⟨o, k b o hb e, r⟩
theorem Wok.al {W : Addr → Prop} {h : Heap} (x : Wok W h) : Al W h := fun b hb => let ⟨o, e, _⟩ := x b hb; ⟨o, e⟩
theorem Wok.notTup {W : Addr → Prop} {h : Heap} (x : Wok W h) {b : Addr} (hb : W b) (its : Array Value) : ¬ IsTup h b its := fun ⟨o, e, c, n, d⟩ => by
  obtain ⟨o', e', r⟩ := x b hb
  rw [e] at e'; cases e'
  rcases r with ⟨es, n, q⟩ | ⟨q, _⟩
  · rw [d] at q; cases q
  · rw [c] at q; injection q with q; exact absurd q (by decide)
theorem wok_no {h : Heap} : Wok no h := fun _ q => q.elim

/-- a frame: what is in W may change, the rest of the base does not; I holds of the heap and hangs on W alone -/
structure St (β : Heap) (W : Addr → Prop) (I : Heap → Prop) (env : Env) (h : Heap) (m : List (Str × V)) : Prop where
  fx : Fx β env h m
  out : ∀ b, W b → ¬ Own env b ∧ β.get? b = none
  ok : Wok W h
  inv : I h
  stab : ∀ h h', KW W h h' → I h → I h'

section
variable {prog : Program} {w : World} {k : Nat} {env : Env} {h h' h'' : Heap} {β β' : Heap} {m m' mc : List (Str × V)} {mg : Str → Option Value} {scope : Scope} {W W' : Addr → Prop} {I I' : Heap → Prop}

theorem St.keep (S : St β W I env h m) (F' : Fx β env h' m') (k : KW W h h') : St β W I env h' m' := ⟨F', S.out, S.ok.kw k, S.stab h h' k S.inv, S.stab⟩
theorem St.kwGw (S : St β W I env h m) (g : Gw env.locals h h') : KW W h h' := fun b o hb e => g.keep b o (fun q => (S.out b hb).1 (.inl q)) e
theorem St.kwKp (S : St β W I env h m) (g : Kp env no h h') : KW W h h' := fun b o hb e => g b o (S.out b hb).1 (fun q => q) e
theorem St.gw (S : St β W I env h m) (g : Gw env.locals h h') : St β W I env h' m := S.keep (S.fx.gw g) (S.kwGw g)
theorem St.kp (S : St β W I env h m) (F' : Fx β env h' m') (g : Kp env no h h') : St β W I env h' m' := S.keep F' (S.kwKp g)
theorem St.fresh (S : St β W I env h m) {l : Addr} (e : h.get? l = none) : ¬ Own env l ∧ ¬ W l :=
  ⟨(fun q => by obtain ⟨o, q, _⟩ := S.fx.ownKind q; rw [e] at q; cases q), S.ok.al.not e⟩
theorem St.rebase (S : St β W I env h m) : ∃ β', Sub β β' ∧ St β' W I env h m ∧ ∀ b o, ¬ Own env b → ¬ W b → h.get? b = some o → β'.get? b = some o := by
  obtain ⟨β', s, F, n, a⟩ := S.fx.base W fun b hb => (S.out b hb).2
  exact ⟨β', s, ⟨F, fun b hb => ⟨(S.out b hb).1, n b hb⟩, S.ok, S.inv, S.stab⟩, a⟩
theorem St.lower (S : St β' W I env h m) (s : Sub β β') : St β W I env h m :=
  ⟨S.fx.lower s, fun b hb => ⟨(S.out b hb).1, by cases e : β.get? b with
    | none => rfl
    | some o => have := s _ _ e; rw [(S.out b hb).2] at this; cases this⟩, S.ok, S.inv, S.stab⟩
theorem St.imp (S : St β W I env h m) (i : I' h) (st : ∀ h h', KW W h h' → I' h → I' h') : St β W I' env h m := ⟨S.fx, S.out, S.ok, i, st⟩
theorem St.less (S : St β W I env h m) (k : ∀ x u, get m' x = some u → get m x = some u) : St β W I env h m' := ⟨S.fx.less k, S.out, S.ok, S.inv, S.stab⟩
/-- the objects of W changed -/
theorem St.eff (S : St β W I env h m) (b : But W h h') (ok : Wok W h') (i : I' h') (st : ∀ h h', KW W h h' → I' h → I' h') : St β W I' env h' m :=
  ⟨S.fx.sw b fun x hx => ⟨(S.out x hx).1, (S.out x hx).2, S.ok.notTup hx⟩, S.out, ok, i, st⟩
/-- a new object of W -/
theorem St.more (S : St β W I env h m) {l : Addr} {o : Obj} (hO : ¬ Own env l) (hβ : β.get? l = none) (e : h.get? l = some o) (hk : (∃ es n, o.data = .dict es n) ∨ (o.cls = .type "list" ∧ ∃ xs n, o.data = .seq xs n))
    (i : I' h) (st : ∀ h h', KW (fun b => W b ∨ b = l) h h' → I' h → I' h') : St β (fun b => W b ∨ b = l) I' env h m :=
  ⟨S.fx, fun b hb => hb.elim (S.out b) fun q => q ▸ ⟨hO, hβ⟩, fun b hb => hb.elim (S.ok b) fun q => q ▸ ⟨o, e, hk⟩, i, st⟩
/-- an immutable list of the heap, in the base -/
theorem lst_base (S : St β W I env h m) (a : ∀ b o, ¬ Own env b → ¬ W b → h.get? b = some o → β'.get? b = some o) {l : Addr} {us : List V} (x : Lst h l us) (nO : ¬ Own env l) (nW : ¬ W l) : Lst β' l us := by
  obtain ⟨vs, n, e, p⟩ := x
  refine ⟨vs, n, a l _ nO nW e, paired_mono (fun v u r => ?_) p⟩
  exact rep_tup (fun b its ⟨o, e, c, n, d⟩ => ⟨o, a b o (S.fx.notOwn e (fun _ _ q => by rw [d] at q; cases q) (fun _ q => by rw [d] at q; cases q)) (fun hb => S.ok.notTup hb its ⟨o, e, c, n, d⟩) e, c, n, d⟩) r

section
variable {A : Around} {s : Shared} {Q : Flow → Shared → Prop} {E : Value → Shared → Prop} {rest body orelse : List Stmt} {pos : Pos}

theorem s_if {test : Expr} {b : Bool} (hA : Lv k A) (S : St β W I env s.heap m) (x : Tr prog w k env s.heap test b)
    (qt : b = true → ∀ h' t, St β W I env h' m → Gw env.locals s.heap h' → wpAny (model prog w) A (execs body env) (fun f s' => match f with | .next => wpAny (model prog w) A (execs rest env) Q E s' | f => Q f s') E { s with heap := h', toks := t })
    (qf : b = false → ∀ h' t, St β W I env h' m → Gw env.locals s.heap h' → wpAny (model prog w) A (execs orelse env) (fun f s' => match f with | .next => wpAny (model prog w) A (execs rest env) Q E s' | f => Q f s') E { s with heap := h', toks := t }) :
    wpAny (model prog w) A (execs (.If test body orelse pos :: rest) env) Q E s :=
  x_if hA x (fun e h' t g => qt e h' t (S.gw g) g) (fun e h' t g => qf e h' t (S.gw g) g)
/-- an if whose other arm does nothing -/
theorem s_if0 {test : Expr} {b : Bool} (hA : Lv k A) (S : St β W I env s.heap m) (x : Tr prog w k env s.heap test b)
    (qt : b = true → ∀ h' t, St β W I env h' m → Gw env.locals s.heap h' → wpAny (model prog w) A (execs body env) (fun f s' => match f with | .next => wpAny (model prog w) A (execs rest env) Q E s' | f => Q f s') E { s with heap := h', toks := t })
    (qf : b = false → ∀ h' t, St β W I env h' m → Gw env.locals s.heap h' → wpAny (model prog w) A (execs rest env) Q E { s with heap := h', toks := t }) :
    wpAny (model prog w) A (execs (.If test body [] pos :: rest) env) Q E s :=
  s_if hA S x qt fun e h' t S' g => x_nil (qf e h' t S' g)
theorem s_assign {y : Str} {py : Pos} {value : Expr} {u : V} (hA : Lv k A) (S : St β W I env s.heap m) (hv : isVar env y) (x : Ev prog w k env s.heap value u)
    (q : ∀ h' t, St β W I env h' (put m y u) → wpAny (model prog w) A (execs rest env) Q E { s with heap := h', toks := t })
    (hs : swapsWith value (some (.Name y py)) pos.line env = pure false := by rfl) : wpAny (model prog w) A (execs (.Assign [.Name y py] value pos :: rest) env) Q E s :=
  x_assign hA S.fx hv x (fun h' t F' k' => q h' t (S.kp F' k')) hs
theorem s_assignL {y : Str} {py : Pos} {value : Expr} {us : List V} (hA : Lv k A) (S : St β W I env s.heap m) (hv : isVar env y) (x : EvL prog w k env s.heap value us)
    (q : ∀ β' l h' t, Sub β β' → Lst β' l us → β.get? l = none → St β' W I env h' (put m y (.ref l)) → wpAny (model prog w) A (execs rest env) Q E { s with heap := h', toks := t })
    (hs : swapsWith value (some (.Name y py)) pos.line env = pure false := by rfl) : wpAny (model prog w) A (execs (.Assign [.Name y py] value pos :: rest) env) Q E s :=
  x_assignL hA S.fx hv x (fun l h' t e xl F' k' => by
    have S' := S.kp F' k'
    obtain ⟨β', s', S'', a⟩ := S'.rebase
    refine q β' l h' t s' (lst_base S' a xl (S.fresh e).1 (S.fresh e).2) ?_ S''
    cases q : β.get? l with
    | none => rfl
    | some o => have := S.fx.sub l o q; rw [e] at this; cases this) hs
/-- the new list may change -/
theorem s_assignM {y : Str} {py : Pos} {value : Expr} {us : List V} (hA : Lv k A) (S : St β W I env s.heap m) (hv : isVar env y) (x : EvL prog w k env s.heap value us)
    (q : ∀ l h' t, St β (fun b => W b ∨ b = l) (fun h => I h ∧ KW (· = l) h' h) env h' (put m y (.ref l)) → Lst h' l us → ¬ W l → wpAny (model prog w) A (execs rest env) Q E { s with heap := h', toks := t })
    (hs : swapsWith value (some (.Name y py)) pos.line env = pure false := by rfl) : wpAny (model prog w) A (execs (.Assign [.Name y py] value pos :: rest) env) Q E s :=
  x_assignL hA S.fx hv x (fun l h' t e xl F' k' => by
    have S' := S.kp F' k'
    obtain ⟨vs, n, el, pl⟩ := id xl
    refine q l h' t (S'.more (S.fresh e).1 ?_ el (.inr ⟨rfl, _, _, rfl⟩) ⟨S'.inv, .refl⟩ fun h1 h2 kw i => ⟨S.stab _ _ (fun b o hb e => kw b o (.inl hb) e) i.1, i.2.trans fun b o hb e => kw b o (.inr hb) e⟩) xl (S.fresh e).2
    cases q : β.get? l with
    | none => rfl
    | some o => have := S.fx.sub l o q; rw [e] at this; cases this) hs
theorem s_assignComp {elt iter target : Expr} {ifs : List Expr} {spos py : Pos} {y : Str} {us : List V} (hA : Lv k A) (S : St β W I env s.heap m)
    (sm : Subm m mc) (src : Src prog w k env s.heap W' iter target us) (hlen : us.length ≤ 1000)
    {bind : Nat → List (Str × V) → List (Str × V)} {p : Nat → Bool} {f : Nat → V} (c : Comp prog w k env β s.heap scope mc target elt ifs us bind p f)
    (hy : env.kindOf y = some .local) (hok : compOk scope env mc = true) (h3 : (scope.names.map (·.1)).Nodup)
    (q : ∀ β' l h' t, Sub β β' → Lst β' l (picked p f us.length) → β.get? l = none → St β' W I env h' (put m y (.ref l)) → wpAny (model prog w) A (execs rest env) Q E { s with heap := h', toks := t })
    (hsw : swapsWith (.ListComp elt [⟨target, iter, ifs, 0⟩] scope pos) (some (.Name y py)) spos.line env = pure true := by rfl) (hs : ∀ x, foldedSetIterable iter env x = pure x := by intro _; rfl) :
    wpAny (model prog w) A (execs (.Assign [.Name y py] (.ListComp elt [⟨target, iter, ifs, 0⟩] scope pos) spos :: rest) env) Q E s :=
  wpAny_execs_cons (assignComp hA S.fx sm src hlen c hy hok h3 (fun D h' t F' k' xl e => by
    have S' := S.keep F' fun b o hb e => k' b o (fun q => (S.out b hb).1 (.inl q)) e
    obtain ⟨β', s', S'', a⟩ := S'.rebase
    refine q β' D h' t s' (lst_base S' a xl (S.fresh e).1 (S.fresh e).2) ?_ S''
    cases q : β.get? D with
    | none => rfl
    | some o => have := S.fx.sub D o q; rw [e] at this; cases this) hsw hs)
theorem s_ret {e : Expr} {P : Value → Heap → Heap → Prop} (hA : Lv k A) (S : St β W I env s.heap m) (x : Gr prog w k env s.heap e P) (q : ∀ v h' t, St β W I env h' m → P v s.heap h' → Q (.ret v) { s with heap := h', toks := t }) :
    wpAny (model prog w) A (execs (.Return (some e) pos :: rest) env) Q E s := x_ret hA x fun v h' t g p => q v h' t (S.gw g) p

/-! several names at once -/
def puts : List (Str × V) → List (Str × Pos) → List V → List (Str × V)
  | m, x :: xs, u :: us => puts (put m x.1 u) xs us
  | m, _, _ => m
def namesOf (xs : List (Str × Pos)) : List Expr := xs.map fun x => .Name x.1 x.2
theorem assign_names {E : Value → Shared → Prop} : ∀ {xs : List (Str × Pos)} {vals : List Value} {us : List V} {s : Shared} {m : List (Str × V)} {Q : Unit → Shared → Prop}, Fx β env s.heap m → (∀ x ∈ xs, isVar env x.1) → xs.length = vals.length → Paired (Rep s.heap) vals us →
    (∀ h' t, Fx β env h' (puts m xs us) → Kp env no s.heap h' → Q () { s with heap := h', toks := t }) →
    wpAny (model prog w) A (assignInOrder (xs.map fun x => assign (.Name x.1 x.2) env) vals) Q E s
  | [], [], us, s, m, Q, F, _, _, p, q => by cases p; exact assignInOrder_nil (q s.heap s.toks F .refl)
  | x :: xs, [], _, _, _, _, _, _, hl, _, _ => by cases hl
  | [], _ :: _, _, _, _, _, _, _, hl, _, _ => by cases hl
  | x :: xs, v :: vals, us, s, m, Q, F, hx, hl, p, q => by
    cases p with
    | cons r p =>
      exact assignInOrder_cons (wpAny_assign_Name (store F (hx x (.head _)) r fun h2 t2 F2 k2 =>
        assign_names (s := { s with heap := h2, toks := t2 }) F2 (fun y hy => hx y (.tail _ hy)) (by simpa using hl) (paired_mono (fun _ _ => Kp.rep F k2) p) fun h3 t3 F3 k3 => q h3 t3 F3 (k2.trans k3)))
theorem assignEach_names : ∀ {xs : List (Str × Pos)}, assignEach (namesOf xs) env = xs.map fun x => (false, assign (.Name x.1 x.2) env)
  | [] => rfl
  | x :: xs => by
    show (false, assign (.Name x.1 x.2) env) :: assignEach (namesOf xs) env = _
    rw [assignEach_names]; rfl
/-- names take a tuple's items -/
theorem assign_tuple {xs : List (Str × Pos)} {kk : Nat} {vals : List Value} {us : List V} {a : Addr} {Q : Unit → Shared → Prop} (hA : A.handled = none) (F : Fx β env s.heap m) (it : IsTup s.heap a vals.toArray) (hx : ∀ x ∈ xs, isVar env x.1) (hl : xs.length = vals.length) (p : Paired (Rep s.heap) vals us)
    (q : ∀ h' t, Fx β env h' (puts m xs us) → Kp env no s.heap h' → Q () { s with heap := h', toks := t }) : wpAny (model prog w) A (assign (.Tuple (namesOf xs) kk pos) env (.ref a)) Q E s := by
  refine wpAny_assign_Tuple hA it (by rw [assignEach_names]; simpa using hl) ?_ fun h1 ext => ?_
  · rw [assignEach_names, List.findIdx?_eq_none_iff]
    intro x hx
    obtain ⟨y, _, rfl⟩ := List.mem_map.mp hx
    rfl
  · have kp1 : ∀ b o, s.heap.get? b = some o → h1.get? b = some o := fun b o e => ext b o (fun hb => by rw [hb, get_new] at e; cases e) e
    have g : Gw env.locals s.heap h1 := .ofSub kp1
    rw [assignEach_names, List.map_map]
    exact assign_names (s := { s with heap := h1 }) (F.gw g) hx hl (paired_mono (fun _ _ => g.rep) p) fun h2 t2 F2 k2 => q h2 t2 F2 ((Kp.ofGw g).trans k2)
/-- x, y = (e, f): what the items are may hang on the run -/
theorem s_tuple {xs : List (Str × Pos)} {es : List Expr} {k1 k2 : Nat} {p1 p2 : Pos} (hA : A.handled = none) (hx : ∀ x ∈ xs, isVar env x.1) (hz : xs.length ≤ 10)
    (x : wpAny (model prog w) A (spliced (backTo p2 (starEach es env))) (fun vs s1 => ∃ us m1 β1, Fx β1 env s1.heap m1 ∧ xs.length = vs.length ∧ Paired (Rep s1.heap) vs us ∧
      ∀ h' t, Fx β1 env h' (puts m1 xs us) → Kp env no s1.heap h' → wpAny (model prog w) A (execs rest env) Q E { s1 with heap := h', toks := t }) E s)
    (hw : swappedStores [.Tuple (namesOf xs) k1 p1] (.Tuple es k2 p2) env = pure none := by rfl)
    (hs : swapsWithSole [.Tuple (namesOf xs) k1 p1] (.Tuple es k2 p2) pos.line env = pure false := by rfl) :
    wpAny (model prog w) A (execs (.Assign [.Tuple (namesOf xs) k1 p1] (.Tuple es k2 p2) pos :: rest) env) Q E s := by
  refine wpAny_execs_cons (Assign_Tuple (Tuple_ (wpAny_mono x (fun vs s1 hh => ?_) fun _ _ e => e)) hs hw)
  obtain ⟨us, m1, β1, F1, hl, p, q⟩ := hh
  refine wpAny_newObj_type ?_ (by show vs.toArray.size ≤ sizeLine; rw [List.size_toArray, sizeLine_eq]; omega)
  have g : Gw env.locals s1.heap (s1.heap.push ({ cls := .type "tuple", data := .seq vs.toArray } : Obj)) := Gw.push _
  refine assign_tuple (s := { s1 with heap := s1.heap.push ({ cls := .type "tuple", data := .seq vs.toArray } : Obj) }) hA (F1.gw g) ⟨_, Heap.get?_push_size _ rfl, rfl, 0, rfl⟩ hx hl (paired_mono (fun _ _ => g.rep) p) fun h' t F' k' => ?_
  exact q h' t F' ((Kp.ofGw g).trans k')
theorem assign_binds {E : Value → Shared → Prop} : ∀ {xs : List Str} {vals : List Value} {us : List V} {s : Shared} {m : List (Str × V)} {Q : Unit → Shared → Prop}, Fx β env s.heap m → (∀ x ∈ xs, isVar env x) → xs.length = vals.length → Paired (Rep s.heap) vals us →
    (∀ h' t, Fx β env h' (puts m (xs.map fun x => (x, default)) us) → Kp env no s.heap h' → Q () { s with heap := h', toks := t }) →
    wpAny (model prog w) A (assignInOrder (xs.map fun x => bindName env x) vals) Q E s
  | [], [], us, s, m, Q, F, _, _, p, q => by cases p; exact assignInOrder_nil (q s.heap s.toks F .refl)
  | x :: xs, [], _, _, _, _, _, _, hl, _, _ => by cases hl
  | [], _ :: _, _, _, _, _, _, _, hl, _, _ => by cases hl
  | x :: xs, v :: vals, us, s, m, Q, F, hx, hl, p, q => by
    cases p with
    | cons r p =>
      exact assignInOrder_cons (bindName_ (store F (hx x (.head _)) r fun h2 t2 F2 k2 =>
        assign_binds (s := { s with heap := h2, toks := t2 }) F2 (fun y hy => hx y (.tail _ hy)) (by simpa using hl) (paired_mono (fun _ _ => Kp.rep F k2) p) fun h3 t3 F3 k3 => q h3 t3 F3 (k2.trans k3)))
/-- local names: the stores go from the right -/
theorem s_tupleS {xs : List Str} {elts es : List Expr} {k1 k2 : Nat} {p1 p2 : Pos} (hA : A.handled = none) (hx : ∀ x ∈ xs.reverse, isVar env x) (hz : xs.length ≤ 10)
    (x : wpAny (model prog w) A (spliced (backTo p2 (starEach es env))) (fun vs s1 => ∃ us m1 β1, Fx β1 env s1.heap m1 ∧ xs.length = vs.length ∧ Paired (Rep s1.heap) vs us ∧
      ∀ h' t, Fx β1 env h' (puts m1 (xs.reverse.map fun x => (x, default)) us.reverse) → Kp env no s1.heap h' → wpAny (model prog w) A (execs rest env) Q E { s1 with heap := h', toks := t }) E s)
    (hw : swappedStores [.Tuple elts k1 p1] (.Tuple es k2 p2) env = pure (some xs) := by rfl)
    (hs : swapsWithSole [.Tuple elts k1 p1] (.Tuple es k2 p2) pos.line env = pure false := by rfl) :
    wpAny (model prog w) A (execs (.Assign [.Tuple elts k1 p1] (.Tuple es k2 p2) pos :: rest) env) Q E s := by
  refine wpAny_execs_cons (Assign_Tuple_swapped (Tuple_ (wpAny_mono x (fun vs s1 hh => ?_) fun _ _ e => e)) hs hw)
  obtain ⟨us, m1, β1, F1, hl, p, q⟩ := hh
  refine wpAny_newObj_type ?_ (by show vs.toArray.size ≤ sizeLine; rw [List.size_toArray, sizeLine_eq]; omega)
  have g : Gw env.locals s1.heap (s1.heap.push ({ cls := .type "tuple", data := .seq vs.toArray } : Obj)) := Gw.push _
  have it : IsTup (s1.heap.push ({ cls := .type "tuple", data := .seq vs.toArray } : Obj)) s1.heap.objs.size vs.toArray := ⟨_, Heap.get?_push_size _ rfl, rfl, 0, rfl⟩
  rw [show xs.length = vs.toArray.size by rw [List.size_toArray, hl]]
  refine unpackItems_tuple (s := { s1 with heap := s1.heap.push ({ cls := .type "tuple", data := .seq vs.toArray } : Obj) }) hA it fun h1 ext => ?_
  have kp1 : ∀ b o, (s1.heap.push ({ cls := .type "tuple", data := .seq vs.toArray } : Obj)).get? b = some o → h1.get? b = some o := fun b o e => ext b o (fun hb => by rw [hb, get_new] at e; cases e) e
  have g1 : Gw env.locals s1.heap h1 := g.trans (.ofSub kp1)
  show wpAny _ _ (assignInOrder (xs.reverse.map fun n => bindName env n) vs.reverse) _ _ _
  exact assign_binds (s := { s1 with heap := h1 }) (F1.gw g1) hx (by simpa using hl) (paired_reverse (paired_mono (fun _ _ => g1.rep) p)) fun h2 t2 F2 k2 => q h2 t2 F2 ((Kp.ofGw g1).trans k2)
theorem s_tupleV {xs : List Str} {elts es : List Expr} {us : List V} {k1 k2 : Nat} {p1 p2 : Pos} (hA : Lv k A) (S : St β W I env s.heap m) (hx : ∀ x ∈ xs.reverse, isVar env x) (hz : xs.length ≤ 10) (x : Ar prog w k env s.heap es us) (hl : xs.length = us.length)
    (q : ∀ h' t, St β W I env h' (puts m (xs.reverse.map fun x => (x, default)) us.reverse) → wpAny (model prog w) A (execs rest env) Q E { s with heap := h', toks := t })
    (hw : swappedStores [.Tuple elts k1 p1] (.Tuple es k2 p2) env = pure (some xs) := by rfl)
    (hs : swapsWithSole [.Tuple elts k1 p1] (.Tuple es k2 p2) pos.line env = pure false := by rfl) :
    wpAny (model prog w) A (execs (.Assign [.Tuple elts k1 p1] (.Tuple es k2 p2) pos :: rest) env) Q E s :=
  s_tupleS hA.hand hx hz (x A hA s .refl _ _ _ fun vs h1 t1 g1 p => ⟨us, m, β, S.fx.gw g1, by rw [hl, paired_length p], p, fun h2 t2 F2 k2 => q h2 t2 ((S.gw g1).kp F2 k2)⟩) hw hs
/-- names take the items of a tuple that a call hands on -/
theorem s_tupleC {xs : List (Str × Pos)} {value : Expr} {k1 : Nat} {p1 : Pos} (hA : A.handled = none) (hx : ∀ x ∈ xs, isVar env x.1)
    (x : wpAny (model prog w) A (eval value env) (fun v s1 => ∃ a vs us m1 β1, v = .ref a ∧ IsTup s1.heap a vs.toArray ∧ Fx β1 env s1.heap m1 ∧ xs.length = vs.length ∧ Paired (Rep s1.heap) vs us ∧
      ∀ h' t, Fx β1 env h' (puts m1 xs us) → Kp env no s1.heap h' → wpAny (model prog w) A (execs rest env) Q E { s1 with heap := h', toks := t }) E s)
    (hw : swappedStores [.Tuple (namesOf xs) k1 p1] value env = pure none := by rfl)
    (hs : swapsWithSole [.Tuple (namesOf xs) k1 p1] value pos.line env = pure false := by rfl) :
    wpAny (model prog w) A (execs (.Assign [.Tuple (namesOf xs) k1 p1] value pos :: rest) env) Q E s := by
  refine wpAny_execs_cons (Assign_Tuple (wpAny_mono x (fun v s1 hh => ?_) fun _ _ e => e) hs hw)
  obtain ⟨a, vs, us, m1, β1, rfl, it, F1, hl, p, q⟩ := hh
  exact assign_tuple hA F1 it hx hl p q
end
end
end Mine

set_option Elab.async false
set_option maxRecDepth 100000
set_option linter.unusedVariables false
set_option autoImplicit false
namespace Mine
open PySem PySem.W PyProof.Rows PySem.Calls PySem.SeqAt

/-! the program's text, by its places -/
def stAt (l : List Stmt) (i : Nat) : Stmt := l.getD i (.Pass default)
def bodyOf : Stmt → List Stmt
  | .FunctionDef _ _ b .. => b
  | .ClassDef _ _ _ b .. => b
  | _ => []
def nameOf : Stmt → Str
  | .FunctionDef n .. => n
  | .ClassDef n .. => n
  | _ => ""
def scopeOf : Stmt → Scope
  | .FunctionDef (scope := s) .. => s
  | _ => default
def argsOf : Stmt → List Str
  | .FunctionDef _ a .. => a.args.map (·.arg)
  | _ => []
def top (i : Nat) : Stmt := stAt Challenge.pw_nu0155_01.main.body i
def meth (i j : Nat) : Stmt := stAt (bodyOf (top i)) j

/-- a def's frame can be entered -/
def okFn (ps : List Str) (scope : Scope) : Bool :=
  decide ps.Nodup && (ps.all fun p => scope.names.lookup p == some .local || scope.names.lookup p == some .cell) && (scope.names.all fun y => y.2 != .cell || scope.names.lookup y.1 != some .local) &&
  !scope.isCoroutine && !scope.isGenerator && scope.kind == .function
/-- the def d stands at f -/
def Df (K : Frag) (h : Heap) (d : Stmt) (f : Addr) : Prop := keepIn K (.ref f) = true ∧ Fn h f (argsOf d) (scopeOf d) (bodyOf d) ∧ okFn (argsOf d) (scopeOf d) = true
theorem Df.sub {K : Frag} {h h' : Heap} {d : Stmt} {f : Addr} (x : Df K h d f) (s : Sub h h') : Df K h' d f := ⟨x.1, x.2.1.sub s, x.2.2⟩
abbrev dEnv (d : Stmt) (qual : Str) (cd : Value) (L f : Addr) : Env := fEnv (scopeOf d) qual cd L f

theorem isVar_loc {d : Stmt} {qual : Str} {cd : Value} {L f : Addr} {x : Str} (h : (scopeOf d).names.lookup x = some .local) : isVar (dEnv d qual cd L f) x := .inl h
theorem cells_has {x : Str} {names : List (Str × NameKind)} : ∀ {n : Nat} {acc : List (Str × Addr)}, (names.lookup x = some .cell ∨ (acc.lookup x).isSome = true) → ((cellsFrom n names acc).lookup x).isSome = true := by
  induction names with
  | nil => intro n acc h; exact h.elim (fun e => nomatch e) fun e => e
  | cons p r ih =>
    intro n acc h
    obtain ⟨y, kd⟩ := p
    simp only [List.lookup_cons] at h
    simp only [cellsFrom]
    split <;> refine ih ?_
    · simp only [List.lookup_cons]
      cases e : x == y <;> simp_all
    · cases e : x == y <;> simp_all
theorem isVar_cell {d : Stmt} {qual : Str} {cd : Value} {L f : Addr} {x : Str} (h : (scopeOf d).names.lookup x = some .cell) : isVar (dEnv d qual cd L f) x := .inr ⟨h, cells_has (.inl h)⟩

section
variable {prog : Program} {w : World} {k : Nat} {env : Env} {h h' h'' : Heap} {β β' : Heap} {m m' mc : List (Str × V)} {mg : Str → Option Value} {scope : Scope} {W W' : Addr → Prop} {I I' : Heap → Prop} {K : Frag}

/-- into a def that may change W -/
theorem enterW {A : Around} {s : Shared} {f : Addr} {d : Stmt} {vals : List Value} {us : List V} {R : Result → Shared → Prop}
    (hA : Lv (k + 1) A) (B : Bs mg β) (sub : Sub β s.heap) (wβ : ∀ b, W b → β.get? b = none) (wok : Wok W s.heap) (D : Df K β d f) (hp : Paired (Rep s.heap) vals us) (hl : (argsOf d).length = us.length)
    (i : I s.heap) (stab : ∀ h h', KW W h h' → I h → I h')
    (q : ∀ (qual : Str) (cd : Value) (L : Addr) (h' : Heap) (t : Nat) (β' : Heap) (E : Value → Shared → Prop), Sub β β' → (∀ b o, ¬ W b → s.heap.get? b = some o → β'.get? b = some o) → (∀ h'', Sub β' h'' → But W s.heap h'') → Sub β' s.heap →
      s.heap.get? L = none → KW W s.heap h' → St β' W I (dEnv d qual cd L f) h' ((argsOf d).zip us) → Lv k (A.deeper (dEnv d qual cd L f)) →
      wpAny (model prog w) (A.deeper (dEnv d qual cd L f)) (execs (bodyOf d) (dEnv d qual cd L f)) (fun fl s' => R (.ok (.ret (match fl with | .ret v => v | _ => .none))) s') E { s with heap := h', toks := t }) :
    codeAny (model prog w) A (.call (.ref f) ⟨vals, []⟩) R s := by
  obtain ⟨hk, H, ok⟩ := D
  simp only [okFn, Bool.and_eq_true, decide_eq_true_eq, Bool.not_eq_true', beq_iff_eq] at ok
  obtain ⟨⟨⟨⟨⟨ok1, ok2⟩, ok3⟩, ok4⟩, ok5⟩, ok6⟩ := ok
  have key1 : ∀ b o, ¬ W b → s.heap.get? b = some o → (hideP W s.heap).get? b = some o := fun b o hb e => by rw [get_hideP, if_neg hb]; exact e
  have key2 : Sub (hideP W s.heap) s.heap := fun b o e => by rw [get_hideP] at e; split at e; cases e; exact e
  refine enter hA (B.sub sub) (H.sub sub) hp hl ok1 (fun p hp => ?_) (fun x hx => ?_) (fun qual cd L h' t E hL F hA' => ?_) ok4 ok5 ok6
  · have := List.all_eq_true.mp ok2 p hp
    rcases Bool.or_eq_true_iff.mp this with q | q
    · exact .inl (by simpa using q)
    · have q' : (scopeOf d).names.lookup p = some .cell := by simpa using q
      exact .inr ⟨q', cells_has (.inl q')⟩
  · have := List.all_eq_true.mp ok3 _ hx
    intro e
    rw [e] at this
    cases this
  · have nO : ∀ b, W b → ¬ Own (fEnv (scopeOf d) qual cd L f) b := fun b hb hO => by
      obtain ⟨o, e, _⟩ := wok b hb
      exact F.notOwnβ e hO
    have kw : KW W s.heap h' := fun b o _ e => F.sub b o e
    refine q qual cd L h' t (hideP W s.heap) E (fun b o e => key1 b o (fun hb => by rw [wβ b hb] at e; cases e) (sub b o e)) key1 (fun h'' ss b o hb e => ss b o (key1 b o hb e)) key2 ?_ kw ⟨F.lower key2, fun b hb => ⟨nO b hb, by rw [get_hideP, if_pos hb]⟩, wok.kw kw, stab _ _ kw i, stab⟩ hA'
    rw [hL]; exact get_new

/-- a def or a class by its name -/
theorem e_call {A : Around} {s : Shared} {x : Str} {p pos : Pos} {e : Expr} {es : List Expr} {a : Addr} {us : List V} {Q : Value → Shared → Prop} {E : Value → Shared → Prop} (hA : Lv k A) (F : Fx β env s.heap m) (B : Bs mg β) (X : K.In β) (hx : env.kindOf x = some .globalImplicit) (hg : mg x = some (.ref a)) (hk : keepIn K (.ref a) = true)
    (y : Ar prog w k env s.heap (e :: es) us)
    (q : ∀ vs h' t, Gw env.locals s.heap h' → Paired (Rep h') vs us → codeAny (model prog w) A (.call (.ref a) ⟨vs, []⟩) (fun r s' => match r with | .ok (.ret v) => Q v s' | .ok _ => False | .error e => E e s') { s with heap := h', toks := t })
    (he : starEach (e :: es) env = (false, eval e env) :: starEach es env := by rfl) (hplain : (backTo pos (starEach es env)).any (·.1) = false := by rfl) (hd : (x == ("__debug__" : Str)) = false := by decide +kernel) :
    wpAny (model prog w) A (eval (.Call (.Name x p) (e :: es) [] pos) env) Q E s :=
  Call_Name rfl (name_glob F B hx hg (callWith_K (X.keeps F.sub) hk (y A hA s .refl pos _ _ fun vs h1 t1 g1 pp => ⟨X.keeps (F.gw g1).sub, wpAny_call (q vs h1 t1 g1 pp)⟩) he hplain) hd)
/-- a def that changes nothing, as an expression -/
theorem Gr.def {x : Str} {p pos : Pos} {e : Expr} {es : List Expr} {a : Addr} {us : List V} {P P' : Value → Heap → Heap → Prop} (F : Fx β env h m) (B : Bs mg β) (X : K.In β) (hx : env.kindOf x = some .globalImplicit) (hg : mg x = some (.ref a)) (hk : keepIn K (.ref a) = true)
    (y : Ar prog w k env h (e :: es) us)
    (c : ∀ A, Lv k A → ∀ (s : Shared) vs (R : Result → Shared → Prop), Sub β s.heap → Gw env.locals h s.heap → Paired (Rep s.heap) vs us → (∀ v h' t, Sub s.heap h' → P v s.heap h' → R (.ok (.ret v)) { s with heap := h', toks := t }) → codeAny (model prog w) A (.call (.ref a) ⟨vs, []⟩) R s)
    (cP : ∀ h1 h2 v h', Gw env.locals h1 h2 → P v h2 h' → P' v h1 h')
    (he : starEach (e :: es) env = (false, eval e env) :: starEach es env := by rfl) (hplain : (backTo pos (starEach es env)).any (·.1) = false := by rfl) (hd : (x == ("__debug__" : Str)) = false := by decide +kernel) :
    Gr prog w k env h (.Call (.Name x p) (e :: es) [] pos) P' :=
  fun A hA s g Q E q => e_call hA (F.gw g) B X hx hg hk (y.gw g) (fun vs h' t g' pp => c A hA _ vs _ ((F.gw (g.trans g')).sub) (g.trans g') pp fun v h'' t' ss pv => q v h'' t' (g'.trans (.ofSub ss)) (cP _ _ v h'' g' pv)) he hplain hd

/-- a call of a def as a statement -/
theorem s_expr {A : Around} {s : Shared} {Q : Flow → Shared → Prop} {E : Value → Shared → Prop} {rest : List Stmt} {e : Expr} {pos : Pos}
    (x : wpAny (model prog w) A (eval e env) (fun _ s' => wpAny (model prog w) A (execs rest env) Q E s') E s)
    (hi : interactive env = false := by rfl) (hs : swapsWith e none pos.line env = pure false := by rfl) : wpAny (model prog w) A (execs (.Expr e pos :: rest) env) Q E s :=
  wpAny_execs_cons (wpAny_Expr_any x hi hs)
end
end Mine

set_option Elab.async false
set_option maxRecDepth 100000
set_option linter.unusedVariables false
set_option autoImplicit false
namespace Mine
open PySem PySem.W PyProof.Rows PySem.Calls PySem.SeqAt

/-- a value that says the same of any heap -/
def Rp (v : Value) (u : V) : Prop := ∀ h, Rep h v u
/-- a dict of fields -/
def Ds (h : Heap) (d : Addr) (n : Nat) (fs : List (Str × V)) : Prop := ∃ mi, Nd h d n mi ∧ (∀ x u, get fs x = some u → ∃ v, mi x = some v ∧ Rp v u) ∧ ∀ x, get fs x = none → mi x = none
theorem Ds.at {h h' : Heap} {d : Addr} {n : Nat} {fs : List (Str × V)} (x : Ds h d n fs) (k : ∀ o, h.get? d = some o → h'.get? d = some o) : Ds h' d n fs := let ⟨mi, a, b⟩ := x; ⟨mi, a.at k, b⟩
theorem Ds.dict {h : Heap} {d : Addr} {n : Nat} {fs : List (Str × V)} (x : Ds h d n fs) : ∃ o, h.get? d = some o ∧ ∃ es n, o.data = .dict es n := let ⟨mi, ⟨es, ep, e, _⟩, _⟩ := x; ⟨_, e, es, ep, rfl⟩
theorem Ds.imp {h : Heap} {d : Addr} {n : Nat} {fs fs' : List (Str × V)} (x : Ds h d n fs) (k : ∀ y, get fs' y = get fs y) : Ds h d n fs' := let ⟨mi, a, b, c⟩ := x; ⟨mi, a, fun y u e => b y u (k y ▸ e), fun y e => c y (k y ▸ e)⟩
theorem Ds.le {h : Heap} {d : Addr} {n n' : Nat} {fs : List (Str × V)} (x : Ds h d n fs) (l : n ≤ n') : Ds h d n' fs := let ⟨mi, ⟨es, ep, e, a, b, c⟩, d⟩ := x; ⟨mi, ⟨es, ep, e, a, b, Nat.le_trans c l⟩, d⟩
theorem rp_of {h : Heap} {v : Value} {u : V} (r : Rep h v u) (f : ∀ g c b, u ≠ .tri g c b) : Rp v u := fun h' => by
  cases u <;> first | exact r | exact absurd rfl (f _ _ _)

section
variable {prog : Program} {w : World} {k : Nat} {env : Env} {h h' h'' : Heap} {β β' : Heap} {m m' mc : List (Str × V)} {mg : Str → Option Value} {scope : Scope} {W W' : Addr → Prop} {I I' : Heap → Prop} {K : Frag} {C a d : Addr} {xs : List Str} {n : Nat} {fs : List (Str × V)}

theorem Ev.fld {e : Expr} {x : Str} {pos : Pos} {u : V} (F : Fx β env h m) (X : K.In β) (Y : Kc K C xs) (hx : x ∈ xs) (y : Ev prog w k env h e (.ref a))
    (Ia : h.get? a = some (instObj C d)) (D : Ds h d n fs) (hL : d ≠ env.locals) (hv : get fs x = some u)
    (he : eval (.Attribute e x pos) env = (do let o ← eval e env; standAt pos.atName; let r ← holding [o] (getAttr o x true); letTemporaryGo e o r; pure r) := by with_unfolding_all rfl) :
    Ev prog w k env h (.Attribute e x pos) u := by
  obtain ⟨mi, N, f, _⟩ := D
  obtain ⟨v, e1, e2⟩ := f x u hv
  exact Ev.attr F X Y hx y Ia N hL e1 (e2 h) he

/-- o.x = value -/
theorem store_fld {A : Around} {s : Shared} {x : Str} {v : Value} {u : V} {Q : Unit → Shared → Prop} {E : Value → Shared → Prop} (X : K.In s.heap) (Y : Kc K C xs) (hx : x ∈ xs)
    (Ia : s.heap.get? a = some (instObj C d)) (D : Ds s.heap d n fs) (hn : n ≤ 900) (r : Rp v u)
    (q : ∀ h' t, Ds h' d (if (get fs x).isSome then n else n + 1) (put fs x u) → Heap.SameBut d s.heap h' → Q () { s with heap := h', toks := t }) : wpAny (model prog w) A (setAttr (.ref a) x v) Q E s := by
  obtain ⟨mi, N, f, f0⟩ := D
  refine set_fld X Y hx Ia N hn fun h' t N' sb => q h' t ?_ sb
  have key : Ds h' d (if (mi x).isSome then n else n + 1) (put fs x u) := ⟨_, N', fun y u' e => by
    rw [get_put] at e
    by_cases hy : y = x
    · rw [if_pos hy] at e ⊢; cases e; exact ⟨v, rfl, r⟩
    · rw [if_neg hy] at e ⊢; exact f y u' e, fun y e => by
    rw [get_put] at e
    by_cases hy : y = x
    · rw [if_pos hy] at e; cases e
    · rw [if_neg hy] at e ⊢; exact f0 y e⟩
  refine key.le ?_
  cases hg : get fs x with
  | none => simp only [Option.isSome_none, Bool.false_eq_true, if_false]; split <;> omega
  | some u' =>
    obtain ⟨v', e1, _⟩ := f x u' hg
    rw [e1]; simp
theorem s_setattr {A : Around} {s : Shared} {x : Str} {value o : Expr} {u : V} {p1 pos : Pos} {rest : List Stmt} {Q : Flow → Shared → Prop} {E : Value → Shared → Prop} (hA : Lv k A) (S : St β W I env s.heap m) (X : K.In β) (Y : Kc K C xs) (hx : x ∈ xs)
    (y : Ev prog w k env s.heap value u) (hu : ∀ g c b, u ≠ .tri g c b) (z : Ev prog w k env s.heap o (.ref a)) (Ia : s.heap.get? a = some (instObj C d)) (D : Ds s.heap d n fs) (hW : W d) (hn : n ≤ 900)
    (q : ∀ h' t, Ds h' d (if (get fs x).isSome then n else n + 1) (put fs x u) → (∀ b o, b ≠ d → b ≠ env.locals → s.heap.get? b = some o → h'.get? b = some o) → Fx β env h' m → Wok W h' → wpAny (model prog w) A (execs rest env) Q E { s with heap := h', toks := t })
    (hs : swapsWith value (some (.Attribute o x p1)) pos.line env = pure false := by rfl) :
    wpAny (model prog w) A (execs (.Assign [.Attribute o x p1] value pos :: rest) env) Q E s := by
  refine wpAny_execs_cons (plainObj_wpAny_Assign_Attribute (y A hA s .refl _ _ fun v h1 t1 g1 r1 => z A hA { s with heap := h1, toks := t1 } g1 _ _ fun ov h2 t2 g2 r2 => ?_) hs)
  cases r2
  have g := g1.trans g2
  have S2 := S.gw g
  refine store_fld (s := { s with heap := h2, toks := t2 }) (X.keeps S2.fx.sub) Y hx (g.obj (notDict_plain rfl) Ia) (D.at fun o e => g.keep d o (fun q => (S.out d hW).1 (.inl q)) e) hn (rp_of (g2.rep r1) hu) fun h' t D' sb => ?_
  have bt : But (· = d) h2 h' := fun b o hb e => sb.extBut b o hb e
  refine q h' t D' (fun b o hb hL e => bt b o hb (g.keep b o hL e)) (S2.fx.sw bt fun b hb => hb ▸ ⟨(S.out d hW).1, (S.out d hW).2, S2.ok.notTup hW⟩) fun b hb => ?_
  by_cases hbd : b = d
  · subst hbd
    obtain ⟨o, e, r⟩ := D'.dict
    exact ⟨o, e, .inl r⟩
  · obtain ⟨o, e, r⟩ := S2.ok b hb
    exact ⟨o, bt b o hbd e, r⟩

/-- facts that make a class callable -/
structure Km (K : Frag) (C : Addr) (fI : Addr) : Prop where
  makes : makesIn K C = true
  init : findIn K (.ref C) "__init__" = some (some (.ref fI))
  fn : isFn K (.ref fI) = true

theorem Lv.under {A : Around} {c : Code} {k : Nat} (x : Lv (k + 1) A) (hw : c.weight ≤ 2) (hu : c.cUnits ≤ 15) : Lv k (A.under c) := ⟨x.hand, by have := x.depth; show A.depth + c.weight + _ ≤ _; omega, by have := x.units; show A.units + c.cUnits + _ ≤ _; omega⟩

theorem make_at {A : Around} {s : Shared} {fI : Addr} {vs : List Value} {R : Result → Shared → Prop} (hA : Lv (k + 1) A) (X : K.In s.heap) (M : Km K C fI) {ml : Str → Option Value} {L : Addr} (hn : s.heap.Ns L ml)
    (q : ∀ x dx h' A', Lv k A' → s.heap.get? x = none → s.heap.get? dx = none → Gw L s.heap h' → h'.get? x = some (instObj C dx) → Ds h' dx 0 [] →
      codeAny (model prog w) A' (.call (.ref fI) ⟨.ref x :: vs, []⟩) (InitBack x R) { s with heap := h' }) :
    codeAny (model prog w) A (.call (.ref C) ⟨vs, []⟩) R s := by
  obtain ⟨F1, N1⟩ := adapt hn
  refine PySem.W.make_K F1 N1 X M.makes M.init (beq_iff_eq.mp M.fn) fun x dx h' F' N' l1 l2 => ?_
  have eI := (N' _ (.head _)).1
  have eD := (N' _ (.tail _ (.head _))).1
  have hL := (N' _ (.head _)).2.1
  have hLd := (N' _ (.tail _ (.head _))).2.1
  have g : Gw L s.heap h' := gw_of (more := [(x, instObj C dx), (dx, emptyDict)]) hn F' N'
  have fd : s.heap.get? dx = none := fresh_of (L := L) (D := dx) (od := emptyDict) (more := allBut L s.heap) (fun p hp => N' p (.tail _ hp)) l1
  have fx : s.heap.get? x = none := fresh_of (L := L) (D := x) (od := instObj C dx) (more := (dx, emptyDict) :: allBut L s.heap) N' fun p hp => Nat.lt_trans (l1 p hp) l2
  refine q x dx h' _ (hA.under ?_ ?_) fx fd g eI ⟨fun _ => none, ⟨#[], 0, eD, fun e he => by simp at he, fun x => by simp [nsFind, findBy], by simp⟩, (fun x u e => by cases e), fun _ _ => rfl⟩
  · exact Nat.le_of_ble_eq_true rfl
  · exact Nat.le_of_ble_eq_true rfl

/-- first.copied() -/
theorem e_meth0 {A : Around} {s : Shared} {o : Expr} {name : Str} {apos pos : Pos} {f : Addr} {Q : Value → Shared → Prop} {E : Value → Shared → Prop} (hA : Lv k A) (F : Fx β env s.heap m) (X : K.In β)
    (hg : plainGet K C name = true) (hf : findIn K (.ref C) name = some (some (.ref f))) (hfn : isFn K (.ref f) = true) (hk : keepIn K (.ref f) = true)
    (z : Ev prog w k env s.heap o (.ref a)) (Ia : s.heap.get? a = some (instObj C d)) (D : Ds s.heap d n fs) (hne : get fs name = none) (hL : d ≠ env.locals)
    (q : ∀ h' t, Gw env.locals s.heap h' → codeAny (model prog w) A (.call (.ref f) ⟨[.ref a], []⟩) (fun r s' => match r with | .ok (.ret v) => Q v s' | .ok _ => False | .error e => E e s') { s with heap := h', toks := t })
    (hbase : attributeBase o name env (eval o env) = eval o env := by rfl) (hline : (apos.endLine == pos.line) = true := by rfl) :
    wpAny (model prog w) A (eval (.Call (.Attribute o name apos) [] [] pos) env) Q E s := by
  obtain ⟨mi, N, _, f0⟩ := D
  have hmi := f0 name hne
  rw [arm_eval_Call, hbase]
  refine wpAny_bind (z A hA s .refl _ _ fun ov h1 t1 g1 e1 => wpAny_bind (wpAny_standAt ?_))
  cases e1
  have hpos : methodCallPos true o env apos pos = pure pos := by unfold methodCallPos; simp [hline]
  unfold methodCall
  rw [show methodCallForm (([] : List Expr).length + ([] : List Keyword).length) (backTo pos (starEach [] env)) (backToKw pos (keywordEach [] env)) = true by rfl]
  have X1 := X.keeps (F.gw g1).sub
  obtain ⟨od, eo, hl⟩ := (N.gw g1 hL).look
  refine wpAny_bind (wpAny_holding ?_)
  show wpAny _ _ (getMethod (.ref a) name _) _ _ _
  refine method_fn (s := { s with heap := h1, toks := t1 }) X1 (inst_at (g1.obj (notDict_plain rfl) Ia) eo) (plainGet_of hg).1 (plainGet_of hg).2 hf (beq_iff_eq.mp hfn) (by show (lookIn name od).map _ = _; rw [hl, hmi]; rfl) ?_
  exact wpAny_bind (wpAny_of_eq hpos (callWith_K0 (first := [.ref a]) X1 hk (wpAny_call (q h1 t1 g1))))
end
end Mine

set_option Elab.async false
set_option maxRecDepth 100000
set_option linter.unusedVariables false
set_option autoImplicit false
namespace Mine
open PySem PySem.W PyProof.Rows PySem.Calls PySem.SeqAt

theorem But.update {h : Heap} {l : Addr} {f : Obj → Obj} : But (· = l) h (h.update l f) := fun b o hb e => (Heap.get?_update_other h f (Ne.symm hb)).trans e
theorem rep_update {h : Heap} {l : Addr} {f : Obj → Obj} {v : Value} {u : V} (nt : ∀ its, ¬ IsTup h l its) (r : Rep h v u) : Rep (h.update l f) v u :=
  rep_tup (fun a its ⟨o, e, c, n, d⟩ => ⟨o, But.update a o (fun q => nt its (q ▸ ⟨o, e, c, n, d⟩)) e, c, n, d⟩) r
theorem list_notTup {h : Heap} {l : Addr} {its : Array Value} {n : Nat} (e : h.get? l = some (listOf its n)) (xs : Array Value) : ¬ IsTup h l xs := fun ⟨o, e', c, _⟩ => by
  rw [e] at e'; cases e'; injection c with q; exact absurd q (by decide)
theorem lst_update {h : Heap} {l : Addr} {vs vs' : List Value} {us' : List V} {n : Nat} (e : h.get? l = some (listOf vs.toArray n)) (f : Array Value → Array Value) (hf : f vs.toArray = vs'.toArray) (p : Paired (Rep h) vs' us') : Lst (h.update l (Obj.mapSeq f)) l us' := by
  have q := PySem.IsL.update e f
  rw [hf] at q
  exact ⟨vs', _, q, paired_mono (fun v u r => rep_update (list_notTup e) r) p⟩
theorem paired_set {α β : Type} {F : α → β → Prop} {l : List α} {l' : List β} (p : Paired F l l') {v : α} {u : β} (r : F v u) : ∀ j, Paired F (l.set j v) (l'.set j u) := by
  induction p with
  | nil => intro j; exact .nil
  | cons f q ih => intro j; cases j with
    | zero => exact .cons r q
    | succ j => exact .cons f (ih j)

section
variable {prog : Program} {w : World} {k : Nat} {env : Env} {h h' h'' : Heap} {β β' : Heap} {m m' mc : List (Str × V)} {mg : Str → Option Value} {scope : Scope} {W W' : Addr → Prop} {I I' : Heap → Prop} {K : Frag}

section
variable {A : Around} {s : Shared} {E : Value → Shared → Prop}

theorem c_append {l : Addr} {us : List V} {v : Value} {u : V} {Q : Value → Shared → Prop} (x : Lst s.heap l us) (r : Rep s.heap v u) (hz : us.length ≤ 1000)
    (q : ∀ h', Lst h' l (us ++ [u]) → But (· = l) s.heap h' → Q .none { s with heap := h' }) : wpAny (model prog w) A (call (.builtin "list.append") [.ref l, v]) Q E s := by
  obtain ⟨vs, n, e, p⟩ := x
  have hsz : vs.toArray.size ≤ sizeLine := by rw [List.size_toArray, paired_length p, sizeLine_eq]; omega
  refine PySem.wpAny_list_append_plain (hsz := hsz) ⟨n, e⟩ fun h' e' sb => q h' ?_ fun b o hb e => sb.extBut b o hb e
  obtain ⟨n', e'⟩ := e'
  refine ⟨vs ++ [v], n', by rw [e']; simp, ?_⟩
  have key : ∀ v u, Rep s.heap v u → Rep h' v u := fun v u r => rep_tup (fun a its ⟨o, eo, c, n2, d⟩ => ⟨o, sb.extBut a o (fun q => list_notTup e its (q ▸ ⟨o, eo, c, n2, d⟩)) eo, c, n2, d⟩) r
  exact paired_append (paired_mono key p) (.cons (key _ _ r) .nil)
theorem c_pop0 {l : Addr} {u : V} {us : List V} {t : Tok} {Q : Value → Shared → Prop} (x : Lst s.heap l (u :: us)) (hz : us.length ≤ 1000)
    (q : ∀ v h', Rep h' v u → Lst h' l us → But (· = l) s.heap h' → Q v { s with heap := h' }) : wpAny (model prog w) A (call (.builtin "list.pop") [.ref l, .int 0 t]) Q E s := by
  obtain ⟨vs, n, e, p⟩ := x
  cases p with
  | @cons v _ vs _ r p =>
    have hl := paired_length p
    refine call_meets PySem.F.slot_list_pop ⟨_, e, rfl⟩ PySem.F.entry_list_pop (PySem.F.args_list_pop_2 _ _) (PySem.MeetsSeq.list_pop_at l _ n 0 t 0 v rfl (by unfold seqIndex?; simp) (by simp) (by rw [List.size_toArray, List.length_cons, sizeLine_eq]; omega)) ⟨e, ?_⟩
    exact q v _ (rep_update (list_notTup e) r) (lst_update e _ (by simp [Array.eraseIdxIfInBounds]) p) But.update
theorem its_notTup {h : Heap} {l : Addr} {us : List V} (x : Its h l us) (xs : Array Value) : ¬ IsTup h l xs := fun ⟨o', e', c', _⟩ => by
  obtain ⟨vs, ⟨o, e, c, _⟩, _⟩ := x
  rw [e] at e'
  cases e'
  rw [c] at c'
  injection c' with q
  exact absurd q (by decide)
theorem c_set {l : Addr} {us : List V} {j : Nat} {t : Tok} {v : Value} {u : V} {Q : Unit → Shared → Prop} (x : Its s.heap l us) (hj : j < us.length) (hz : us.length ≤ 1000) (r : Rep s.heap v u)
    (q : ∀ h', Its h' l (us.set j u) → But (· = l) s.heap h' → Q () { s with heap := h' }) : wpAny (model prog w) A (setItem (.ref l) (.int j t) v) Q E s := by
  have nt := its_notTup x
  obtain ⟨vs, il, p⟩ := x
  have hl := paired_length p
  refine wpAny_setItem_list il (Int.natCast_nonneg j) (by omega) (by rw [List.size_toArray]; omega) fun h' il' sb => q h' ⟨vs.set j v, by simpa using il', ?_⟩ fun b o hb e => sb.extBut b o hb e
  exact paired_mono (fun a b ra => rep_tup (fun c its ⟨o, e, kc, n, d⟩ => ⟨o, sb.extBut c o (fun q => nt its (q ▸ ⟨o, e, kc, n, d⟩)) e, kc, n, d⟩) ra) (paired_set p r j)

/-- o.name(args) where o is a list -/
theorem e_lmeth {o e : Expr} {es : List Expr} {name : Str} {id : String} {apos pos : Pos} {l : Addr} {us : List V} {Q : Value → Shared → Prop} (hA : Lv k A)
    (z : Ev prog w k env s.heap o (.ref l)) (x : Lst s.heap l us) (slot : Slot "list" name id) (hty : typeOf (.builtin id) = pure (.type "method_descriptor"))
    (q : ∀ h' t, Gw env.locals s.heap h' → wpAny (model prog w) A (spliced (backTo pos (starEach (e :: es) env))) (fun vs s1 => wpAny (model prog w) A (call (.builtin id) (.ref l :: vs)) Q E s1) E { s with heap := h', toks := t })
    (hbase : attributeBase o name env (eval o env) = eval o env := by rfl) (hline : (apos.endLine == pos.line) = true := by rfl)
    (he : starEach (e :: es) env = (false, eval e env) :: starEach es env := by rfl) (hplain : (backTo pos (starEach es env)).any (·.1) = false := by rfl)
    (hform : methodCallForm ((e :: es).length + ([] : List Keyword).length) (backTo pos (starEach (e :: es) env)) (backToKw pos (keywordEach [] env)) = true := by rfl) :
    wpAny (model prog w) A (eval (.Call (.Attribute o name apos) (e :: es) [] pos) env) Q E s := by
  rw [arm_eval_Call, hbase]
  refine wpAny_bind (z A hA s .refl _ _ fun ov h1 t1 g1 e1 => wpAny_bind (wpAny_standAt ?_))
  cases e1
  have hpos : methodCallPos true o env apos pos = pure pos := by unfold methodCallPos; simp [hline]
  unfold methodCall
  rw [hform]
  obtain ⟨vs, n, el, p⟩ := g1.lst x
  refine wpAny_bind (wpAny_holding ?_)
  refine getMethod_builtin (s := { s with heap := h1, toks := t1 }) ⟨_, el, rfl⟩ PySem.F.plainAttrs_list slot hty (fun a e => by cases e; exact ⟨_, el, rfl⟩) ?_
  refine wpAny_bind (wpAny_of_eq hpos ?_)
  exact callWith_method1 (first := [.ref l]) (q h1 t1 g1) he hplain

theorem wpAny_setItem_slice {l sl vL : Addr} {items new : Array Value} {n : Nat} {vl vu : Value} {i j : Nat} {Q : Unit → Shared → Prop} (ho : s.heap.get? l = some (listOf items n))
    (hs : s.heap.IsSliceOf sl vl vu .none) (pl : IsPart vl (some (i : Int))) (pu : IsPart vu (some (j : Int))) (hv : s.heap.IsList vL new) (hne : vL ≠ l) (hi : i ≤ items.size) (hj : j ≤ items.size) (hz : items.size ≤ 1000) (hz2 : new.size ≤ 1000)
    (h : Q () { s with heap := s.heap.update l (Obj.mapSeq fun xs => xs.extract 0 i ++ new ++ xs.extract (max i j) xs.size) }) : wpAny (model prog w) A (setItem (.ref l) (.ref sl) (.ref vL)) Q E s := by
  have hl : s.heap.IsList l items := ⟨_, ho, rfl, n, rfl⟩
  obtain ⟨os, hos, hcs, hds⟩ := id hs
  have hTs : s.TypeIs (.ref sl) "slice" := ⟨os, hos, hcs⟩
  unfold setItem
  try with_reducible refine wpAny_holding ?_
  first | refine wpAny_bind (wpAny_pure ?_) | skip
  refine wpAny_bind (wpAny_sequenceKey hl.typeIs (by decide) ?_)
  refine wpAny_bind (wpAny_callSpecial?_slot (name := Str.ofString "__setitem__") hl.typeIs slot_list_setitem
    (wpAny_call_entry slot_list_setitem hl.typeIs entry_list_setitem ?_ (args_list_setitem _ _ _)))
  show wpAny _ _ (Builtin.List.listSubscript? (.ref sl) >>= _) _ _ s
  refine wpAny_bind ?_
  unfold Builtin.List.listSubscript?
  refine wpAny_bind (wpAny_specialOf hTs slice_no_index ?_)
  simp only [Option.isNone_none, if_true]
  refine wpAny_pure ?_
  show wpAny _ _ (typeOf (.ref sl) >>= _) _ _ s
  refine wpAny_bind (wpAny_typeOf hTs ?_)
  rw [if_neg (by decide)]
  rw [listSliceParts_eq]
  refine wpAny_bind (wpAny_bind (wpAny_field hos hds (x := .none) rfl (wpAny_bind (wpAny_listPart .none ?_))))
  rw [if_neg (show ¬ ((rawPart none == rawInt 0) = true) from Bool.false_ne_true)]
  refine wpAny_bind (wpAny_field hos hds (x := vl) rfl (wpAny_bind (wpAny_listPart pl ?_)))
  refine wpAny_bind (wpAny_field hos hds (x := vu) rfl (wpAny_bind (wpAny_listPart pu (wpAny_pure ?_))))
  obtain ⟨ov, hov, hcv, nv, hdv⟩ := id hv
  have hTv : s.TypeIs (.ref vL) "list" := ⟨ov, hov, hcv⟩
  rw [if_neg (by simp [Builtin.List.listSameRef, Ne.symm hne])]
  refine wpAny_bind ?_
  unfold Builtin.List.listAllItems
  refine wpAny_bind (wpAny_typeOf hTv ?_)
  rw [if_pos (by rfl)]
  refine listItems_at hov hdv ?_
  refine wpAny_bind (listItems_at ho rfl ?_)
  refine wpAny_bind (wpAny_of_eq (sliceIndices_raw (some (i : Int)) (some (j : Int)) none items.size (by simp)) ?_)
  have e : sliceBounds (some (i : Int)) (some (j : Int)) none items.size = ((i : Int), (j : Int), 1) := by
    unfold sliceBounds
    simp only [Option.getD_none]
    have h1 : ¬ ((i : Int) < 0) := by omega
    have h2 : ¬ ((j : Int) < 0) := by omega
    simp only [h1, h2, if_false, show (1 : Int) > 0 from by decide, if_true]
    congr 1
    · omega
    · congr 1
      omega
  rw [e]
  dsimp only
  rw [if_pos (by rfl)]
  refine wpAny_bind (wpAny_rule ?_)
  rw [if_neg (by unfold Builtin.List.listTooLong; rw [sizeLine_eq]; simp; omega)]
  have em : (max (i : Int) (j : Int)).toNat = max i j := by omega
  rw [em, show ((i : Int)).toNat = i by omega]
  refine wpAny_bind (listUpdate_at ho rfl ?_ (by rw [sizeLine_eq]; omega) ?_)
  · exact wpAny_bind (wpAny_letGo (wpAny_pure ⟨_, rfl, wpAny_pure h⟩))
  · rw [sizeLine_eq]
    simp only [Array.size_append, Array.size_extract]
    omega
end

section
variable {A : Around} {s : Shared} {Q : Flow → Shared → Prop} {E : Value → Shared → Prop} {rest : List Stmt} {pos : Pos}

/-- after a change of the list l of W alone -/
theorem St.chg {l : Addr} (S : St β W I env h m) (hl : W l) (g : Gw env.locals h h') (b : But (· = l) h' h'') (us : List V) (x : Its h'' l us) :
    (∀ b o, b ≠ l → b ≠ env.locals → h.get? b = some o → h''.get? b = some o) ∧ Fx β env h'' m ∧ Wok W h'' := by
  have S2 := S.gw g
  refine ⟨fun c o hc hL e => b c o hc (g.keep c o hL e), S2.fx.sw b fun c hc => hc ▸ ⟨(S.out l hl).1, (S.out l hl).2, S2.ok.notTup hl⟩, fun c hc => ?_⟩
  by_cases hcl : c = l
  · subst hcl
    obtain ⟨vs, ⟨o, e, c, n, d⟩, _⟩ := x
    exact ⟨o, e, .inr ⟨c, _, _, d⟩⟩
  · obtain ⟨o, e, r⟩ := S2.ok c hc
    exact ⟨o, b c o hcl e, r⟩

theorem s_setitem {value o i : Expr} {p1 : Pos} {l : Addr} {j : Nat} (hA : Lv k A) (hl : W l)
    (x : wpAny (model prog w) A (eval value env) (fun v s1 => ∃ u us I1 m1, St β W I1 env s1.heap m1 ∧ Rep s1.heap v u ∧ Its s1.heap l us ∧ j < us.length ∧ us.length ≤ 1000 ∧ Ev prog w k env s1.heap o (.ref l) ∧ Ev prog w k env s1.heap i (.int j) ∧
      (∀ h' t, Its h' l (us.set j u) → (∀ b o, b ≠ l → b ≠ env.locals → s1.heap.get? b = some o → h'.get? b = some o) → Fx β env h' m1 → Wok W h' → wpAny (model prog w) A (execs rest env) Q E { s1 with heap := h', toks := t })) E s)
    (hs : swapsWith value (some (.Subscript o i p1)) pos.line env = pure false := by rfl) :
    wpAny (model prog w) A (execs (.Assign [.Subscript o i p1] value pos :: rest) env) Q E s := by
  refine wpAny_execs_cons (wpAny_Assign_Subscript (wpAny_mono x (fun v s1 hh => ?_) fun _ _ e => e) hs)
  obtain ⟨u, us, I1, m1, S1, r, xl, hj, hz, zo, zi, q⟩ := hh
  refine zo A hA s1 .refl _ _ fun ov h2 t2 g2 e2 => ?_
  cases e2
  refine zi A hA { s1 with heap := h2, toks := t2 } g2 _ _ fun iv h3 t3 g3 e3 => ?_
  obtain ⟨t9, rfl⟩ := e3
  have g := g2.trans g3
  refine c_set (s := { s1 with heap := h3, toks := t3 }) (g.its xl) hj hz (g.rep r) fun h' xl' b => ?_
  obtain ⟨c1, c2, c3⟩ := S1.chg hl g b _ xl'
  exact q h' t3 xl' c1 c2 c3

theorem s_setslice {value o lo hi : Expr} {p1 sp : Pos} {l : Addr} {us news : List V} {i j : Nat} (hA : Lv k A) (S : St β W I env s.heap m) (hl : W l)
    (y : Gr prog w k env s.heap value fun v _ h' => ∃ vL, v = .ref vL ∧ Lst h' vL news ∧ vL ≠ l) (zo : Ev prog w k env s.heap o (.ref l)) (zlo : Ev prog w k env s.heap lo (.int i)) (zhi : Ev prog w k env s.heap hi (.int j))
    (xl : Lst s.heap l us) (hz : us.length ≤ 1000) (hz2 : news.length ≤ 1000) (hi' : i ≤ j) (hj : j ≤ us.length)
    (q : ∀ h' t, Lst h' l (us.take i ++ news ++ us.drop j) → (∀ b o, b ≠ l → b ≠ env.locals → s.heap.get? b = some o → h'.get? b = some o) → Fx β env h' m → Wok W h' → wpAny (model prog w) A (execs rest env) Q E { s with heap := h', toks := t })
    (hs : swapsWith value (some (.Subscript o (.Slice (some lo) (some hi) none sp) p1)) pos.line env = pure false := by rfl) :
    wpAny (model prog w) A (execs (.Assign [.Subscript o (.Slice (some lo) (some hi) none sp) p1] value pos :: rest) env) Q E s := by
  refine wpAny_execs_cons (wpAny_Assign_Subscript (y A hA s .refl _ _ fun v h1 t1 g1 ⟨vL, e1, xv, hne⟩ => ?_) hs)
  subst e1
  refine zo A hA { s with heap := h1, toks := t1 } g1 _ _ fun ov h2 t2 g2 e2 => ?_
  cases e2
  show wpAny _ _ (evalPart (some lo) env >>= fun l => holding [l] (evalPart (some hi) env) >>= fun u => holding [l, u] (evalPart none env) >>= fun st => newFields "slice" [l, u, st]) _ _ _
  refine wpAny_bind (part_some zlo A hA { s with heap := h2, toks := t2 } (g1.trans g2) _ _ fun v3 h3 t3 g3 p3 => wpAny_bind (wpAny_holding (part_some zhi A hA { s with heap := h3, toks := t3 } ((g1.trans g2).trans g3) _ _ fun v4 h4 t4 g4 p4 => wpAny_bind (wpAny_holding (wpAny_pure ?_)))))
  refine wpAny_newObj_type (?_) (by show (#[v3, v4, Value.none].size ≤ _); rw [sizeLine_eq]; simp)
  have g14 : Gw env.locals h1 h4 := (g2.trans g3).trans g4
  have g : Gw env.locals s.heap (h4.push ({ cls := .type "slice", data := .fields #[v3, v4, .none] } : Obj)) := (g1.trans g14).trans (Gw.push _)
  obtain ⟨vs, n, e, p⟩ := g.lst xl
  obtain ⟨ws, n', e', p'⟩ := (g14.trans (Gw.push ({ cls := .type "slice", data := .fields #[v3, v4, .none] } : Obj))).lst xv
  have el := paired_length p
  have el' := paired_length p'
  refine wpAny_setItem_slice (s := { s with heap := h4.push ({ cls := .type "slice", data := .fields #[v3, v4, .none] } : Obj), toks := t4 }) e (Heap.IsSliceOf.new ..) p3 p4 ⟨_, e', rfl, n', rfl⟩ hne (by rw [List.size_toArray]; omega) (by rw [List.size_toArray]; omega) (by rw [List.size_toArray]; omega) (by rw [List.size_toArray]; omega) ?_
  have xl' := lst_update (vs' := vs.take i ++ ws ++ vs.drop j) (us' := us.take i ++ news ++ us.drop j) e (fun xs => xs.extract 0 i ++ ws.toArray ++ xs.extract (max i j) xs.size) (by
    have : max i j = j := by omega
    rw [this]
    apply Array.toList_inj.mp
    simp [List.extract]
    exact List.take_of_length_le (by simp)) (paired_append (paired_append (paired_take p i) p') (paired_drop p j))
  obtain ⟨c1, c2, c3⟩ := S.chg hl g But.update _ xl'.isList
  exact q _ t4 xl' c1 c2 c3
end
end
end Mine

set_option Elab.async false
set_option maxRecDepth 100000
set_option linter.unusedVariables false
set_option autoImplicit false
namespace Mine
open PySem PySem.W PyProof.Rows PySem.Calls PySem.SeqAt

section
variable {prog : Program} {w : World} {k : Nat} {env : Env} {h h' h'' : Heap} {β β' : Heap} {m m' mc : List (Str × V)} {mg : Str → Option Value} {scope : Scope} {W W' : Addr → Prop} {I I' : Heap → Prop} {K : Frag}

theorem kf_kw (hO : ∀ b, W b → ¬ Own env b) (ok : Wok W h) (kf : Kf env h h') : KW W h h' := fun b o hb e => by
  obtain ⟨o', e', r⟩ := ok b hb
  rw [e] at e'; cases e'
  refine kf b o (hO b hb) (fun xs q => ?_) e
  rcases r with ⟨es, n, d⟩ | ⟨_, ys, n, d⟩ <;> rw [q] at d <;> cases d

section
variable {A : Around} {s : Shared} {Q : Flow → Shared → Prop} {E : Value → Shared → Prop} {rest body : List Stmt} {pos : Pos}

theorem s_for {target iter : Expr} {us : List V} (hA : Lv k A) (S : St β W I env s.heap m) (src : Src prog w k env s.heap W iter target us)
    (bind : Nat → List (Str × V) → List (Str × V)) (hT : ∀ A, Lv k A → ∀ i u, us[i]? = some u → TkL prog w A env target u (bind i))
    (J : Nat → Heap → List (Str × V) → Prop) (J0 : ∀ h', Gw env.locals s.heap h' → J 0 h' m)
    (Jk : ∀ i h1 h2 m1, Fx β env h1 m1 → Wok W h1 → Kf env h1 h2 → KW W h1 h2 → J i h1 m1 → J i h2 m1)
    (turn : ∀ i h1 t1 m1 β1 E', i < us.length → Sub β β1 → (∀ b o, ¬ Own env b → ¬ W b → h1.get? b = some o → β1.get? b = some o) → St β1 W (KW W h1) env h1 (bind i m1) → J i h1 m1 →
      wpAny (model prog w) A (execs body env) (fun f s' => match f with
        | .next | .cont => ∃ h3 t3 m3, s' = { s with heap := h3, toks := t3 } ∧ Fx β1 env h3 m3 ∧ Wok W h3 ∧ J (i + 1) h3 m3
        | .brk => wpAny (model prog w) A (execs rest env) Q E s'
        | .ret v => Q (.ret v) s') E' { s with heap := h1, toks := t1 })
    (done : ∀ h1 t1 m1, St β W (KW W h1) env h1 m1 → J us.length h1 m1 → wpAny (model prog w) A (execs rest env) Q E { s with heap := h1, toks := t1 })
    (hs : ∀ x, foldedSetIterable iter env x = pure x := by intro _; rfl) :
    wpAny (model prog w) A (execs (.For target iter body [] pos :: rest) env) Q E s := by
  refine wpAny_execs_cons (wpAny_For (src A hA s .refl _ _ fun It' h1 t1 g1 e1 it => ?_) hs)
  have S1 := S.gw g1
  have eI : β.get? It' = none := by
    cases q : β.get? It' with
    | none => rfl
    | some o => have := S.fx.sub It' o q; rw [e1] at this; cases this
  refine for_core (iter := iter) (s := { s with heap := h1, toks := t1 }) (E := fun _ _ => False) (R := fun r s' => match r with
      | .ok f => (match f with | .next => wpAny (model prog w) A (execs rest env) Q E s' | f => Q f s')
      | .error e => cameBackBy (model prog w) A env E e s') hA S1.fx W it eI bind (hT A hA) (fun b hb => (S.out b hb).2) (fun i h m1 => J i h m1 ∧ Wok W h) (fun i h1 m1 b hj hb => hj.2 b hb) ⟨J0 h1 g1, S1.ok⟩
    (fun i h1 h2 m1 F1 kf hj => ?_) (fun i h2 t2 m2 β2 E' hi sb w2 a2 F2 hj => ?_) (fun h2 t2 m2 F2 hj => ?_)
  · have kw := kf_kw (fun b hb => (S.out b hb).1) hj.2 kf
    exact ⟨Jk i h1 h2 m1 F1 hj.2 kf kw hj.1, hj.2.kw kw⟩
  · refine wpAny_mono (turn i h2 t2 m2 β2 E' hi sb a2 ⟨F2, fun b hb => ⟨(S.out b hb).1, w2 b hb⟩, hj.2, .refl, fun _ _ a b => b.trans a⟩ hj.1) (fun f s' hf => ?_) fun _ _ e => e
    cases f with
    | next => obtain ⟨h3, t3, m3, e, a, b, c⟩ := hf; exact ⟨h3, t3, m3, e, a, c, b⟩
    | cont => obtain ⟨h3, t3, m3, e, a, b, c⟩ := hf; exact ⟨h3, t3, m3, e, a, c, b⟩
    | brk => exact hf
    | ret v => exact hf
  · exact done h2 t2 m2 ⟨F2, S.out, hj.2, .refl, fun _ _ a b => b.trans a⟩ hj.1

/-- for x, y in enumerate(e) -/
theorem s_forE {e : Expr} {x y : Str} {p1 p2 p3 pn pc : Pos} {kk : Nat} {l : Addr} {us : List V} (hA : Lv k A) (S : St β W I env s.heap m) (B : Bs mg β) (hx : env.kindOf "enumerate" = some .globalImplicit) (hv : mg "enumerate" = none)
    (z : Ev prog w k env s.heap e (.ref l)) (xl : Lst s.heap l us) (nW : ¬ W l) (vx : isVar env x) (vy : isVar env y)
    (J : Nat → Heap → List (Str × V) → Prop) (J0 : ∀ h', Gw env.locals s.heap h' → J 0 h' m)
    (Jk : ∀ i h1 h2 m1, Fx β env h1 m1 → Wok W h1 → Kf env h1 h2 → KW W h1 h2 → J i h1 m1 → J i h2 m1)
    (turn : ∀ (i : Nat) u h1 t1 m1 β1 E', us[i]? = some u → Sub β β1 → (∀ b o, ¬ Own env b → ¬ W b → h1.get? b = some o → β1.get? b = some o) → St β1 W (KW W h1) env h1 (put (put m1 x (.int (i : Int))) y u) → J i h1 m1 →
      wpAny (model prog w) A (execs body env) (fun f s' => match f with
        | .next | .cont => ∃ h3 t3 m3, s' = { s with heap := h3, toks := t3 } ∧ Fx β1 env h3 m3 ∧ Wok W h3 ∧ J (i + 1) h3 m3
        | .brk => wpAny (model prog w) A (execs rest env) Q E s'
        | .ret v => Q (.ret v) s') E' { s with heap := h1, toks := t1 })
    (done : ∀ h1 t1 m1, St β W (KW W h1) env h1 m1 → J us.length h1 m1 → wpAny (model prog w) A (execs rest env) Q E { s with heap := h1, toks := t1 })
    (he : starEach [e] env = [(false, eval e env)] := by rfl)
    (hs : ∀ x, foldedSetIterable (.Call (.Name "enumerate" pn) [e] [] pc) env x = pure x := by intro _; rfl) :
    wpAny (model prog w) A (execs (.For (.Tuple [.Name x p1, .Name y p2] kk p3) (.Call (.Name "enumerate" pn) [e] [] pc) body [] pos :: rest) env) Q E s := by
  refine wpAny_execs_cons (wpAny_For (Call_Name rfl (name_built S.fx B hx hv boot_enumerate ?_ (by decide) (by decide))) hs)
  refine PyProof.Rows.callWith_type1 (rest := []) ?_ he rfl
  rw [he]
  refine spliced_cons (z A hA s .refl _ _ fun v h1 t1 g1 e1 => spliced_nil ?_)
  cases e1
  have S1 := S.gw g1
  obtain ⟨vs, il, pp⟩ := (g1.lst xl).isList
  obtain ⟨ol, eol, hcl, nl, hdl⟩ := id il
  have e0 : ∀ b, h1.get? b = none → β.get? b = none := fun b q => by
    cases q' : β.get? b with
    | none => rfl
    | some o => have := S1.fx.sub b o q'; rw [q] at this; cases this
  refine call_enumerate_list (s := { s with heap := h1, toks := t1 }) il fun H hE hI hsz kH => ?_
  replace kH : ∀ b o, h1.get? b = some o → H.get? b = some o := kH
  have fE : h1.get? (h1.objs.size + 1) = none := Heap.get?_none_of_le (by omega)
  have fI : h1.get? h1.objs.size = none := get_new
  show wpAny _ _ (pyIter (.ref (h1.objs.size + 1))) _ _ _
  generalize hie : h1.objs.size + 1 = ie at hE fE ⊢
  generalize hit : h1.objs.size = it at hE hI fI ⊢
  replace hE : IsEnum H ie it 0 .none := hE
  replace hI : H.IsListIter it l 0 := hI
  have hne : ie ≠ it := by rw [← hie, ← hit]; exact Nat.succ_ne_self _
  have hlie : l ≠ ie := fresh_ne fE eol
  have hlit : l ≠ it := fresh_ne fI eol
  have gH : Gw env.locals h1 H := .ofSub kH
  have S2 : St β W I env H m := S1.gw gH
  have nOe : ¬ Own env ie := (S1.fresh fE).1
  have nOi : ¬ Own env it := (S1.fresh fI).1
  have nOl : ¬ Own env l := S1.fx.notOwn eol (fun _ _ q => by rw [hdl] at q; cases q) (fun _ q => by rw [hdl] at q; cases q)
  have nWe : ¬ W ie := (S1.fresh fE).2
  have nWi : ¬ W it := (S1.fresh fI).2
  refine wpAny_pyIter_enum (s := { s with heap := H, toks := _ }) hE ?_
  have D := Draws.list (prog := prog) (w := w) (A := A.in1) hA.hand it l hlit vs.toArray
  have hsize : vs.toArray.size = us.length := by rw [List.size_toArray, paired_length pp]
  have pH : Paired (Rep H) vs us := paired_mono (fun _ _ => gH.rep) pp
  refine codeAny_forLoop_any (fun n s' => ∃ h2 t2 m2 i old, s' = { s with heap := h2, toks := t2 } ∧ n = us.length + 1 - i ∧ i ≤ us.length ∧ Fx β env h2 m2 ∧ Wok W h2 ∧ IsEnum h2 ie it (i : Nat) old ∧ h2.IsListIter it l i ∧ h2.IsList l vs.toArray ∧ J i h2 m2 ∧ ∀ a its, IsTup H a its → IsTup h2 a its)
    ?_ (us.length + 1) ⟨H, t1, m, 0, .none, rfl, rfl, Nat.zero_le _, S2.fx, S2.ok, hE, hI, gH.list il, J0 H (g1.trans gH), fun _ _ x => x⟩
  rintro n s' ⟨h2, t2, m2, i, old, rfl, hn, hi, F2, ok2, E2, I2, L2, J2, T2⟩
  by_cases hlt : i < us.length
  · refine wpAny_pyNext_enum_itemD (s := { s with heap := h2, toks := t2 }) D E2 ⟨I2, L2⟩ (by rw [hsize]; exact hlt) hne (by simp [hne, Ne.symm hlie]) fun xv h3 tk hP ho st3 hT hz3 k3 => ?_
    replace ho : IsEnumOut h3 ie it ((i : Int) + 1) xv h2.objs.size := ho
    replace hT : h3.get? h2.objs.size = some { cls := .type "tuple", data := .seq #[.int i tk, xv] } := hT
    replace k3 : ∀ b o, b ≠ ie → b ≠ it → h2.get? b = some o → h3.get? b = some o := k3
    replace st3 : h3.IsListIter it l (i + 1) ∧ h3.IsList l vs.toArray := st3
    have hP' : vs[i]? = some xv := by simpa using hP
    obtain ⟨u, hu, ru⟩ := paired_get' pH hP'
    refine wpAny_letOwnedTupleGo_enum (s := { s with heap := h3, toks := tk + 1 }) ho fun h4 ho4 sb4 => ?_
    have E4 : IsEnum h4 ie it ((i + 1 : Nat) : Int) xv := by
      have : IsEnum h4 ie it ((i : Int) + 1) xv := by simpa using ho4
      exact this
    have b4 : But (· = ie) h3 h4 := fun b o hb e => sb4.extBut b o hb e
    have tne : h2.objs.size ≠ ie := by
      have := Heap.lt_size E2
      exact Nat.ne_of_gt this
    have t4 : h4.get? h2.objs.size = some { cls := .type "tuple", data := .seq #[.int i tk, xv] } := b4 _ _ tne hT
    have b24 : But (fun b => b = ie ∨ b = it) h2 h4 := fun b o hb e => b4 b o (fun q => hb (.inl q)) (k3 b o (fun q => hb (.inl q)) (fun q => hb (.inr q)) e)
    have ntE : ∀ its, ¬ IsTup h2 ie its := fun its ⟨o, e, c, _⟩ => by rw [E2] at e; cases e; injection c with q; exact absurd q (by decide)
    have ntI : ∀ its, ¬ IsTup h2 it its := fun its ⟨o, e, c, _⟩ => by
      obtain ⟨o', e', c', _⟩ := I2
      rw [e] at e'; cases e'; rw [c] at c'; injection c' with q; exact absurd q (by decide)
    have F4 : Fx β env h4 m2 := F2.sw b24 fun b hb => by
      rcases hb with rfl | rfl
      · exact ⟨nOe, e0 _ fE, ntE⟩
      · exact ⟨nOi, e0 _ fI, ntI⟩
    have T4 : ∀ a its, IsTup H a its → IsTup h4 a its := fun a its q => by
      have q2 := T2 a its q
      obtain ⟨o, e, c, n, d⟩ := id q2
      exact ⟨o, b24 a o (fun hb => hb.elim (fun r => ntE its (r ▸ q2)) fun r => ntI its (r ▸ q2)) e, c, n, d⟩
    have ok4 : Wok W h4 := ok2.kw fun b o hb e => b24 b o (fun q => q.elim (fun r => nWe (r ▸ hb)) fun r => nWi (r ▸ hb)) e
    refine assign_tuple (s := { s with heap := h4, toks := tk + 1 }) (xs := [(x, p1), (y, p2)]) (vals := [.int i tk, xv]) (us := [.int i, u]) hA.hand F4 ⟨_, t4, rfl, 0, rfl⟩ (fun z hz => by
      rcases List.mem_cons.mp hz with rfl | hz
      · exact vx
      · rw [List.mem_singleton.mp hz]; exact vy) rfl (.cons ⟨tk, rfl⟩ (.cons (rep_tup T4 ru) .nil)) fun h5 t5 F5 k5 => ?_
    have kw5 : KW W h4 h5 := fun b o hb e => k5 b o (S.out b hb).1 (fun q => q) e
    have kf : Kf env h2 h5 := fun b o ho hf e => k5 b o ho (fun q => q) (b24 b o (fun q => by
      rcases q with rfl | rfl
      · rw [E2] at e; cases e; exact hf _ rfl
      · obtain ⟨o', e', c', d'⟩ := I2
        rw [e] at e'; cases e'; exact hf _ d') e)
    have J5 : J i h5 m2 := Jk i h2 h5 m2 F2 ok2 kf (kf_kw (fun b hb => (S.out b hb).1) ok2 kf) J2
    have ok5 := ok4.kw kw5
    have E5 : IsEnum h5 ie it ((i + 1 : Nat) : Int) xv := k5 _ _ nOe (fun q => q) E4
    have L4 : h4.IsListIter it l (i + 1) ∧ h4.IsList l vs.toArray := ⟨st3.1.at fun o e => b4 it o (Ne.symm hne) e, st3.2.at fun o e => b4 l o hlie e⟩
    have I5 : h5.IsListIter it l (i + 1) := L4.1.at fun o e => k5 it o nOi (fun q => q) e
    have L5 : h5.IsList l vs.toArray := L4.2.at fun o e => k5 l o nOl (fun q => q) e
    have T5 : ∀ a its, IsTup H a its → IsTup h5 a its := fun a its q => by
      obtain ⟨o, e, c, n, d⟩ := T4 a its q
      exact ⟨o, k5 a o (F4.notOwn e (fun _ _ q => by rw [d] at q; cases q) (fun _ q => by rw [d] at q; cases q)) (fun q => q) e, c, n, d⟩
    obtain ⟨β5, s5, F5', w5, a5⟩ := F5.base W fun b hb => (S.out b hb).2
    refine wpAny_mono (turn i u h5 t5 m2 β5 _ hu s5 a5 ⟨F5', fun b hb => ⟨(S.out b hb).1, w5 b hb⟩, ok5, .refl, fun _ _ a b => b.trans a⟩ J5) (fun f s6 hf => ?_) fun _ _ e => e
    have fin : (∃ h6 t6 m6, s6 = { s with heap := h6, toks := t6 } ∧ Fx β5 env h6 m6 ∧ Wok W h6 ∧ J (i + 1) h6 m6) → ∃ n', n' < n ∧ ∃ h2 t2 m2 i old, s6 = { s with heap := h2, toks := t2 } ∧ n' = us.length + 1 - i ∧ i ≤ us.length ∧ Fx β env h2 m2 ∧ Wok W h2 ∧ IsEnum h2 ie it (i : Nat) old ∧ h2.IsListIter it l i ∧ h2.IsList l vs.toArray ∧ J i h2 m2 ∧ ∀ a its, IsTup H a its → IsTup h2 a its := by
      rintro ⟨h6, t6, m6, rfl, F6, ok6, J6⟩
      have kW : ∀ b o, ¬ Own env b → (¬ W b) → h5.get? b = some o → h6.get? b = some o := fun b o h1 h2 e => F6.sub b o (a5 b o h1 h2 e)
      refine ⟨us.length + 1 - (i + 1), by omega, h6, t6, m6, i + 1, xv, rfl, rfl, hlt, F6.lower s5, ok6, kW _ _ nOe nWe E5, I5.at fun o e => kW it o nOi nWi e, L5.at fun o e => kW l o nOl nW e, J6, fun a its q => ?_⟩
      have q5 := T5 a its q
      obtain ⟨o, e, c, n, d⟩ := id q5
      exact ⟨o, kW a o (F5.notOwn e (fun _ _ q => by rw [d] at q; cases q) (fun _ q => by rw [d] at q; cases q)) (fun q => ok5.notTup q its q5) e, c, n, d⟩
    cases f with
    | next => exact fin hf
    | cont => exact fin hf
    | brk => exact hf
    | ret v => exact hf
  · have e : i = us.length := by omega
    subst e
    refine wpAny_pyNext_enum_endD (s := { s with heap := h2, toks := t2 }) D E2 ⟨hsize ▸ I2, L2⟩ fun h4 k4 => wpAny_execs_nil ?_
    have k4 : But (· = it) h2 h4 := fun b o hb e => k4 b o hb e
    have ntI : ∀ its, ¬ IsTup h2 it its := fun its ⟨o, e, c, _⟩ => by
      obtain ⟨o', e', c', _⟩ := I2
      rw [e] at e'; cases e'; rw [c] at c'; injection c' with q; exact absurd q (by decide)
    have kf : Kf env h2 h4 := fun b o ho hf e => k4 b o (fun q => by
      subst q
      obtain ⟨o', e', c', d'⟩ := I2
      rw [e] at e'; cases e'; exact hf _ d') e
    exact done h4 t2 m2 ⟨F2.sw k4 fun b hb => hb ▸ ⟨nOi, e0 _ fI, ntI⟩, S.out, ok2.kw (kf_kw (fun b hb => (S.out b hb).1) ok2 kf), .refl, fun _ _ a b => b.trans a⟩ (Jk _ _ _ _ F2 ok2 kf (kf_kw (fun b hb => (S.out b hb).1) ok2 kf) J2)
end

/-- sorted(e, reverse=f) of ints -/
theorem EvL.sortedR {p pos kp : Pos} {e f : Expr} {ns : List Int} {b : Bool} (F : Fx β env h m) (B : Bs mg β) (hx : env.kindOf "sorted" = some .globalImplicit) (hv : mg "sorted" = none) (a : EvA prog w k env h e (ns.map V.int)) (c : Ev prog w k env h f (.bool b)) (hz : ns.length < 64)
    (he : starEach [e] env = [(false, eval e env)] := by rfl) : Gr prog w k env h (.Call (.Name "sorted" p) [e] [⟨some (Str.ofString "reverse"), f, kp⟩] pos) fun v h₀ h' => ∃ l ns', v = .ref l ∧ Lst h' l (ns'.map V.int) ∧ ns'.Perm ns ∧ Ordered b ns' :=
  fun A hA s g Q E q => by
    refine wpAny_bind (name_built (F.gw g) B hx hv boot_sorted ?_ (by decide) (by decide))
    refine callWith_kw ?_ (by rw [he]; rfl) (by rw [he]; rfl)
    rw [he]
    refine spliced_cons (a A hA s g _ _ fun v h1 t1 g1 e1 => spliced_nil (kws_cons (c A hA _ (g.trans g1) _ _ fun v2 h2 t2 g2 e2 => kws_nil ?_)))
    obtain ⟨l, rfl, xl⟩ := e1
    cases e2
    obtain ⟨vs, il, pp⟩ := (g2.lst xl).isList
    obtain ⟨ml, n1, -⟩ := ((F.gw g).gw (g1.trans g2)).ns
    obtain ⟨F1, N1⟩ := adapt n1
    have hI := ints_of pp
    show wpAny _ _ (call (.builtin "sorted") [.ref l] [(Str.ofString "reverse", .bool b)]) _ _ _
    refine sorted_N_rev (s := { s with heap := h2, toks := t2 }) F1 N1 il hI (by rw [hI.length]; exact hz) fun h' vs' ns' ep F' N' i' pm od => q _ _ t2 ((g1.trans g2).trans (gw_of (more := [_]) n1 F' N')) ⟨_, ns', rfl, ⟨vs', ep, (N' _ (.head _)).1, of_ints i'⟩, pm, od⟩
end
end Mine

set_option Elab.async false
set_option maxRecDepth 100000
set_option linter.unusedVariables false
set_option autoImplicit false
namespace Mine
open PySem PySem.W PyProof.Rows PySem.Calls PySem.SeqAt

def infoF (g c : Int) (u : Bool) : List (Str × V) :=
  [("code", .int 0), ("glyph", .int g), ("cluster", .int c), ("mask", .int 0), ("is_unsafe", .bool u), ("lig_id", .int 0), ("lig_part", .int 0), ("lig_count", .int 0), ("kind", .str ""),
   ("x_advance", .int 0), ("y_advance", .int 0), ("x_offset", .int 0), ("y_offset", .int 0), ("parent", .int 0), ("bond", .str "")]
def infoN : List Str := ["code", "glyph", "cluster", "mask", "is_unsafe", "lig_id", "lig_part", "lig_count", "kind", "x_advance", "y_advance", "x_offset", "y_offset", "parent", "bond"]
def bufF (l : Addr) (b : Bool) : List (Str × V) := [("row", .ref l), ("is_backward", .bool b), ("last_lig", .int 0)]
def bufN : List Str := ["row", "is_backward", "last_lig"]

theorem put_cluster {g c x : Int} {u : Bool} : put (infoF g c u) "cluster" (.int x) = infoF g x u := by rfl
theorem put_mark {g c : Int} {u v : Bool} : put (infoF g c u) "is_unsafe" (.bool v) = infoF g c v := by rfl
theorem put_glyph {g c x : Int} {u : Bool} : put (infoF g c u) "glyph" (.int x) = infoF x c u := by rfl

def builtN : List Str := ["len", "min", "range", "list", "int", "abs", "sorted", "enumerate"]
/-- the text as it stands at the base β -/
structure Tx (K : Frag) (mg : Str → Option Value) (CI CB : Addr) (β : Heap) : Prop where
  bs : Bs mg β
  kin : K.In β
  none : ∀ x ∈ builtN, mg x = .none
  fn : ∀ i ∈ [4, 5, 6, 7, 8, 9, 10, 11, 13, 14, 15, 16, 17, 18, 19, 20], ∃ a, mg (nameOf (top i)) = some (.ref a) ∧ Df K β (top i) a
  info : mg "Info" = some (.ref CI) ∧ keepIn K (.ref CI) = true ∧ Kc K CI infoN ∧ ∃ fI, Km K CI fI ∧ Df K β (meth 2 0) fI
  copied : plainGet K CI "copied" = true ∧ ∃ f, findIn K (.ref CI) "copied" = some (some (.ref f)) ∧ isFn K (.ref f) = true ∧ Df K β (meth 2 1) f
  buf : mg "Buffer" = some (.ref CB) ∧ keepIn K (.ref CB) = true ∧ Kc K CB bufN ∧ ∃ fI, Km K CB fI ∧ Df K β (meth 3 0) fI
theorem Tx.sub {K : Frag} {mg : Str → Option Value} {CI CB : Addr} {β β' : Heap} (T : Tx K mg CI CB β) (s : Sub β β') : Tx K mg CI CB β' where
  bs := T.bs.sub s
  kin := T.kin.keeps s
  none := T.none
  fn := fun i hi => let ⟨a, e, d⟩ := T.fn i hi; ⟨a, e, d.sub s⟩
  info := let ⟨a, b, c, f, d, e⟩ := T.info; ⟨a, b, c, f, d, e.sub s⟩
  copied := let ⟨a, f, b, c, d⟩ := T.copied; ⟨a, f, b, c, d.sub s⟩
  buf := let ⟨a, b, c, f, d, e⟩ := T.buf; ⟨a, b, c, f, d, e.sub s⟩

section
variable {prog : Program} {w : World} {k : Nat} {K : Frag} {mg : Str → Option Value} {CI CB : Addr} {β : Heap}

theorem nl {d : Stmt} {qual : Str} {cd : Value} {L f : Addr} {h : Heap} {m : List (Str × V)} {x : Str} {pos : Pos} {u : V} (F : Fx β (dEnv d qual cd L f) h m) (hm : get m x = some u := by rfl) (hk : (scopeOf d).names.lookup x = some .local := by rfl)
    (hd : (x == ("__debug__" : Str)) = false := by decide) : Ev prog w k (dEnv d qual cd L f) h (.Name x pos) u := Ev.name F hm (.inl hk) hd
theorem nc {d : Stmt} {qual : Str} {cd : Value} {L f : Addr} {h : Heap} {m : List (Str × V)} {x : Str} {pos : Pos} {u : V} (F : Fx β (dEnv d qual cd L f) h m) (hm : get m x = some u := by rfl) (hk : (scopeOf d).names.lookup x = some .cell := by rfl)
    (hd : (x == ("__debug__" : Str)) = false := by decide) : Ev prog w k (dEnv d qual cd L f) h (.Name x pos) u := Ev.name F hm (isVar_cell hk) hd
/-- info.x -/
theorem Ev.inf {env : Env} {h : Heap} {m : List (Str × V)} {e : Expr} {x : Str} {pos : Pos} {u : V} {a d : Addr} {g c : Int} {b : Bool} (T : Tx K mg CI CB β) (F : Fx β env h m) (y : Ev prog w k env h e (.ref a)) (Ia : h.get? a = some (instObj CI d)) (D : Ds h d 15 (infoF g c b)) (hL : d ≠ env.locals)
    (hv : get (infoF g c b) x = some u := by rfl) (hx : x ∈ infoN := by decide)
    (he : eval (.Attribute e x pos) env = (do let o ← eval e env; standAt pos.atName; let r ← holding [o] (getAttr o x true); letTemporaryGo e o r; pure r) := by with_unfolding_all rfl) :
    Ev prog w k env h (.Attribute e x pos) u := Ev.fld F T.kin T.info.2.2.1 hx y Ia D hL hv he

/-- set_cluster -/
theorem set_cluster_ok {A : Around} {s : Shared} {f a d : Addr} {vals : List Value} {R : Result → Shared → Prop} {g c x : Int} {u : Bool} (T : Tx K mg CI CB β) (hA : Lv (k + 1) A) (D : Df K β (top 5) f) (sub : Sub β s.heap)
    (hp : Paired (Rep s.heap) vals [.ref a, .int x]) (Ia : β.get? a = some (instObj CI d)) (hd : β.get? d = none) (Dd : Ds s.heap d 15 (infoF g c u))
    (q : ∀ h' t, But (· = d) s.heap h' → Ds h' d 15 (infoF g x (u && c == x)) → R (.ok (.ret .none)) { s with heap := h', toks := t }) :
    codeAny (model prog w) A (.call (.ref f) ⟨vals, []⟩) R s := by
  have stab : ∀ h h', KW (· = d) h h' → Ds h d 15 (infoF g c u) → Ds h' d 15 (infoF g c u) := fun h h' kw x => x.at fun o e => kw d o rfl e
  refine enterW (W := (· = d)) (I := fun h => Ds h d 15 (infoF g c u)) hA T.bs sub (fun b hb => hb ▸ hd) (fun b hb => hb ▸ (let ⟨o, e, r⟩ := Dd.dict; ⟨o, e, .inl r⟩)) D hp rfl Dd stab
    fun qual cd L h1 t1 β1 E sb up dn low fL kw S hA' => ?_
  have F := S.fx
  have X := T.sub sb
  have Ia1 : ∀ {h}, Fx β1 (dEnv (top 5) qual cd L f) h [("info", .ref a), ("cluster", .int x)] → h.get? a = some (instObj CI d) := fun F => F.sub _ _ (sb _ _ Ia)
  have hL : d ≠ L := fun e => (S.out d rfl).1 (.inl e)
  refine s_if0 hA' S (Tr.cmp (Ev.inf X F (nl F) (Ia1 F) S.inv hL) (nl F) c_ne) (fun e h2 t2 S2 _ => ?_) (fun e h2 t2 S2 _ => ?_)
  · refine s_setattr hA' S2 X.kin X.info.2.2.1 (x := "cluster") (by decide) (nl S2.fx) (fun _ _ _ q => by cases q) (nl S2.fx) (Ia1 S2.fx) S2.inv rfl (by decide) (fun h3 t3 D3 k3 F3 ok3 => ?_)
    have S3 : St β1 (· = d) (fun h => Ds h d 15 (infoF g x u)) (dEnv (top 5) qual cd L f) h3 _ := ⟨F3, S2.out, ok3, D3, fun h h' kw x => x.at fun o e => kw d o rfl e⟩
    refine s_setattr hA' S3 X.kin X.info.2.2.1 (x := "is_unsafe") (by decide) Ev.bool (fun _ _ _ q => by cases q) (nl S3.fx) (Ia1 S3.fx) S3.inv rfl (by decide) (fun h4 t4 D4 k4 F4 ok4 => ?_)
    refine x_nil (x_nil (q h4 t4 (dn h4 F4.sub) ?_))
    have hcx : (c == x) = false := by simpa using e
    rw [hcx, Bool.and_false]
    exact D4
  · have hcx : c = x := by simpa using e
    subst hcx
    refine x_nil (q h2 t2 (dn h2 S2.fx.sub) ?_)
    rw [beq_self_eq_true, Bool.and_true]
    exact S2.inv
end
end Mine

set_option Elab.async false
set_option maxRecDepth 100000
set_option linter.unusedVariables false
set_option autoImplicit false
namespace Mine
open PySem PySem.W PyProof.Rows PySem.Calls PySem.SeqAt

abbrev Tri := Int × Int × Bool
def refs (as : List (Addr × Addr)) : List V := as.map fun p => V.ref p.1
def tris (rw : List Tri) : List V := rw.map fun r => V.tri r.1 r.2.1 r.2.2
def cl (rw : List Tri) (i : Nat) : Int := (rw.getD i default).2.1
def fldsOf (h : Heap) (p : Addr × Addr) (r : Tri) : Prop := Ds h p.2 15 (infoF r.1 r.2.1 r.2.2)

/-- the infos of a row -/
structure Rw (CI : Addr) (h : Heap) (as : List (Addr × Addr)) (rw : List Tri) : Prop where
  inst : ∀ p ∈ as, h.get? p.1 = some (instObj CI p.2)
  flds : Paired (fldsOf h) as rw
  nd : (as.map (·.2)).Nodup
theorem refs_length {as : List (Addr × Addr)} : (refs as).length = as.length := by simp [refs]
theorem tris_length {rw : List Tri} : (tris rw).length = rw.length := by simp [tris]
theorem Rw.len {CI : Addr} {h : Heap} {as : List (Addr × Addr)} {rw : List Tri} (x : Rw CI h as rw) : as.length = rw.length := paired_length x.flds
theorem paired_mem {α β : Type} {F G : α → β → Prop} {l : List α} {l' : List β} (p : Paired F l l') (g : ∀ a b, a ∈ l → F a b → G a b) : Paired G l l' := by
  induction p with
  | nil => exact .nil
  | cons f _ ih => exact .cons (g _ _ (.head _) f) (ih fun a b ha => g a b (.tail _ ha))
theorem Rw.keep {CI : Addr} {h h' : Heap} {as : List (Addr × Addr)} {rw : List Tri} (x : Rw CI h as rw) (k1 : ∀ p ∈ as, ∀ o, h.get? p.1 = some o → h'.get? p.1 = some o) (k2 : ∀ p ∈ as, ∀ o, h.get? p.2 = some o → h'.get? p.2 = some o) : Rw CI h' as rw :=
  ⟨fun p hp => k1 p hp _ (x.inst p hp), paired_mem x.flds fun p r hp d => Ds.at d (k2 p hp), x.nd⟩
theorem Rw.sub {CI : Addr} {h h' : Heap} {as : List (Addr × Addr)} {rw : List Tri} (x : Rw CI h as rw) (s : Sub h h') : Rw CI h' as rw := x.keep (fun p _ o e => s _ o e) (fun p _ o e => s _ o e)
theorem Rw.gw {CI L : Addr} {h h' : Heap} {as : List (Addr × Addr)} {rw : List Tri} (x : Rw CI h as rw) (g : Gw L h h') (n : ∀ p ∈ as, p.2 ≠ L) : Rw CI h' as rw :=
  x.keep (fun p hp o e => by have := x.inst p hp; rw [e] at this; cases this; exact g.obj (notDict_plain rfl) e) (fun p hp o e => g.keep _ o (n p hp) e)
theorem Rw.at {CI : Addr} {h : Heap} {as : List (Addr × Addr)} {rw : List Tri} (x : Rw CI h as rw) {i : Nat} (hi : i < rw.length) :
    ∃ p, as[i]? = some p ∧ p ∈ as ∧ h.get? p.1 = some (instObj CI p.2) ∧ Ds h p.2 15 (infoF (rw.getD i default).1 (cl rw i) (rw.getD i default).2.2) := by
  have hr : rw[i]? = some rw[i] := List.getElem?_eq_getElem hi
  obtain ⟨p, hp, d⟩ := paired_get x.flds hr
  refine ⟨p, hp, List.mem_of_getElem? hp, x.inst p (List.mem_of_getElem? hp), ?_⟩
  unfold cl
  rw [List.getD_eq_getElem?_getD, hr]
  exact d
theorem refs_get {as : List (Addr × Addr)} {i : Nat} {p : Addr × Addr} (e : as[i]? = some p) : (refs as)[i]? = some (.ref p.1) := by simp [refs, e]
theorem tris_get {rw : List Tri} {i : Nat} (hi : i < rw.length) : (tris rw)[i]? = some (.tri (rw.getD i default).1 (cl rw i) (rw.getD i default).2.2) := by
  unfold cl tris
  rw [List.getElem?_map, List.getElem?_eq_getElem hi, List.getD_eq_getElem?_getD, List.getElem?_eq_getElem hi]
  rfl

section
variable {prog : Program} {w : World} {k : Nat} {K : Frag} {mg : Str → Option Value} {CI CB : Addr} {β : Heap}

theorem Ev.cast {env : Env} {h : Heap} {e : Expr} {i j : Int} (x : Ev prog w k env h e (.int i)) (hij : i = j) : Ev prog w k env h e (.int j) := hij ▸ x
/-- row[i] -/
theorem Ev.rowAt {env : Env} {h : Heap} {e i : Expr} {pos : Pos} {l : Addr} {as : List (Addr × Addr)} {j : Int} {p : Addr × Addr} (y : EvA prog w k env h e (refs as)) (z : Ev prog w k env h i (.int j)) (h0 : 0 ≤ j) (hz : as.length ≤ 1000) (hp : as[j.toNat]? = some p)
    (hs : ∀ o t, subscripted i false o (.int j t) = operate [o, .int j t] (getItem o (.int j t)) := by intro _ _; with_unfolding_all rfl) : Ev prog w k env h (.Subscript e i pos) (.ref p.1) := by
  have : j.toNat < as.length := (List.getElem?_eq_some_iff.mp hp).1
  exact Ev.item y z h0 (refs_get hp) (by omega) hs
/-- row[i].cluster -/
theorem Ev.rowCl {env : Env} {h : Heap} {m : List (Str × V)} {e i : Expr} {pos pos' : Pos} {as : List (Addr × Addr)} {rw : List Tri} {j : Int} (T : Tx K mg CI CB β) (F : Fx β env h m) (y : EvA prog w k env h e (refs as)) (R : Rw CI h as rw) (z : Ev prog w k env h i (.int j)) (h0 : 0 ≤ j) (hj : j < rw.length) (hz : rw.length ≤ 1000) (hL : ∀ p ∈ as, p.2 ≠ env.locals)
    (hs : ∀ o t, subscripted i false o (.int j t) = operate [o, .int j t] (getItem o (.int j t)) := by intro _ _; with_unfolding_all rfl)
    (he : eval (.Attribute (.Subscript e i pos) "cluster" pos') env = (do let o ← eval (.Subscript e i pos) env; standAt pos'.atName; let r ← holding [o] (getAttr o "cluster" true); letTemporaryGo (.Subscript e i pos) o r; pure r) := by with_unfolding_all rfl) :
    Ev prog w k env h (.Attribute (.Subscript e i pos) "cluster" pos') (.int (cl rw j.toNat)) := by
  obtain ⟨p, hp, hm, Ia, D⟩ := R.at (i := j.toNat) (by omega)
  exact Ev.inf T F (Ev.rowAt (l := 0) y z h0 (by rw [R.len]; exact hz) hp hs) Ia D (hL p hm) (by rfl) (by decide) he

/-- a pair of ints -/
theorem Gr.tup2 {env : Env} {h : Heap} {e e' : Expr} {kk : Nat} {pos : Pos} {i j : Int} (x : Ev prog w k env h e (.int i)) (y : Ev prog w k env h e' (.int j))
    (h1 : starEach [e, e'] env = (false, eval e env) :: starEach [e'] env := by rfl) (h2 : starEach [e'] env = (false, eval e' env) :: starEach [] env := by rfl) :
    Gr prog w k env h (.Tuple [e, e'] kk pos) fun v _ h' => ∃ a t1 t2, v = .ref a ∧ IsTup h' a #[.int i t1, .int j t2] :=
  fun A hA s g Q E q => Tuple_ (Ar.cons x (Ar.cons y Ar.nil h2) h1 A hA s g _ _ _ fun vs h1 t1 g1 p => by
    cases p with
    | cons e1 p => cases p with
      | cons e2 p =>
        cases p
        obtain ⟨ta, rfl⟩ := e1
        obtain ⟨tb, rfl⟩ := e2
        exact wpAny_newObj_type (q _ _ _ (g1.trans (Gw.push _)) ⟨h1.objs.size, ta, tb, rfl, _, Heap.get?_push_size _ rfl, rfl, 0, rfl⟩) (by show ([Value.int i ta, .int j tb].toArray).size ≤ sizeLine; rw [sizeLine_eq]; simp))

/-! widened -/
def up (c : Nat → Int) (n : Nat) : Nat → Nat → Nat
  | 0, b => b
  | f + 1, b => if b < n ∧ c b = c (b - 1) then up c n f (b + 1) else b
def down (c : Nat → Int) : Nat → Nat
  | 0 => 0
  | f + 1 => if c f = c (f + 1) then down c f else f + 1
theorem down_le {c : Nat → Int} : ∀ {f : Nat}, down c f ≤ f
  | 0 => Nat.le_refl _
  | f + 1 => by simp only [down]; split; exact Nat.le_succ_of_le down_le; exact Nat.le_refl _
theorem up_ge {c : Nat → Int} {n : Nat} : ∀ {f b : Nat}, b ≤ up c n f b
  | 0, b => Nat.le_refl _
  | f + 1, b => by simp only [up]; split; exact Nat.le_trans (Nat.le_succ b) up_ge; exact Nat.le_refl _
theorem up_le {c : Nat → Int} {n : Nat} : ∀ {f b : Nat}, b ≤ n → up c n f b ≤ n
  | 0, b, h => h
  | f + 1, b, h => by simp only [up]; split; exact up_le (by omega); exact h

theorem widened_ok {A : Around} {s : Shared} {f l : Addr} {vals : List Value} {R : Result → Shared → Prop} {as : List (Addr × Addr)} {rw : List Tri} {b e : Nat} (T : Tx K mg CI CB s.heap) (hA : Lv (k + 1) A) (D : Df K s.heap (top 6) f)
    (hp : Paired (Rep s.heap) vals [.ref l, .int b, .int e]) (xl : Lst s.heap l (refs as)) (xr : Rw CI s.heap as rw) (hbe : b < e) (he : e ≤ rw.length) (hz : rw.length ≤ 1000)
    (q : ∀ v h' t, Sub s.heap h' → (∃ a t1 t2, v = .ref a ∧ IsTup h' a #[.int (down (cl rw) b) t1, .int (up (cl rw) rw.length (rw.length - e) e) t2]) → R (.ok (.ret v)) { s with heap := h', toks := t }) :
    codeAny (model prog w) A (.call (.ref f) ⟨vals, []⟩) R s := by
  refine enterW (W := no) (I := fun _ => True) hA T.bs Sub.refl (fun b hb => hb.elim) wok_no D hp rfl trivial (fun _ _ _ x => x) fun qual cd L h1 t1 β1 E sb up' dn low fL kw S hA' => ?_
  have X := T.sub sb
  have xr1 := xr.sub sb
  have xl1 := lst_sub sb xl
  refine s_assign hA' S (.inl (by rfl)) (nl S.fx) fun h2 t2 S2 => ?_
  refine s_assign hA' S2 (.inl (by rfl)) (nl S2.fx) fun h3 t3 S3 => ?_
  let mk : Nat → Nat → List (Str × V) := fun x y => [("row", .ref l), ("begin", .int b), ("end", .int e), ("first", .int x), ("behind", .int y)]
  have noL : ∀ {h m}, Fx β1 (dEnv (top 6) qual cd L f) h m → ∀ p ∈ as, p.2 ≠ (dEnv (top 6) qual cd L f).locals := fun F p hp q => by
    obtain ⟨i, hi⟩ := List.mem_iff_getElem?.mp hp
    obtain ⟨r, _, d⟩ := paired_get' xr1.flds hi
    obtain ⟨o, eo, _⟩ := Ds.dict d
    exact F.notOwnβ eo (.inl q)
  refine x_while hA' S3.fx (fun n h m => ∃ y, m = mk b y ∧ e ≤ y ∧ y ≤ rw.length ∧ n = rw.length - y ∧ up (cl rw) rw.length (rw.length - y) y = up (cl rw) rw.length (rw.length - e) e) (rw.length - e) ⟨e, rfl, Nat.le_refl _, he, rfl, rfl⟩ ?_
  rintro n h4 _ E' F4 ⟨y, rfl, hy1, hy2, hn, hy3⟩
  refine ⟨(decide ((y : Int) < (refs as).length)) && (cl rw (y : Int).toNat == cl rw ((y : Int) - 1).toNat), ?_, fun hb h5 t5 g5 => ?_, fun hb h5 t5 g5 => ?_⟩
  · refine Tr.and2 (Tr.cmp (nl F4) (Ev.len F4 X.bs (by rfl) (X.none _ (by decide)) (Ev.a (nl F4) (lst_sub F4.sub xl1)) (by rw [refs_length, xr.len]; exact hz)) c_lt) fun hlt => ?_
    rw [refs_length, xr.len] at hlt
    have hlt : y < rw.length := by have := of_decide_eq_true hlt; omega
    exact Tr.cmp (Ev.rowCl X F4 (Ev.a (nl F4) (lst_sub F4.sub xl1)) (xr1.sub F4.sub) (nl F4) (by omega) (by omega) hz (noL F4)) (Ev.rowCl X F4 (Ev.a (nl F4) (lst_sub F4.sub xl1)) (xr1.sub F4.sub) (Ev.sub (nl F4) Ev.int) (by omega) (by omega) hz (noL F4)) c_eq
  · obtain ⟨hlt, hcl⟩ := Bool.and_eq_true_iff.mp hb
    have hlt : y < rw.length := by have := of_decide_eq_true hlt; rw [refs_length, xr.len] at this; omega
    have hcl : cl rw y = cl rw (y - 1) := by
      have := eq_of_beq hcl
      rwa [show ((y : Int)).toNat = y by omega, show ((y : Int) - 1).toNat = y - 1 by omega] at this
    refine x_assign hA' (F4.gw g5) (.inl (by rfl)) (Ev.add (nl (F4.gw g5)) Ev.int) fun h6 t6 F6 k6 => x_nil ?_
    refine ⟨rw.length - (y + 1), h6, t6, mk b (y + 1), by omega, rfl, F6, y + 1, rfl, by omega, hlt, rfl, ?_⟩
    rw [← hy3, show rw.length - y = (rw.length - (y + 1)) + 1 by omega]
    simp only [up, hlt, hcl, and_self, if_true]
  · have hY : y = up (cl rw) rw.length (rw.length - e) e := by
      rw [← hy3]
      cases hq : rw.length - y with
      | zero => rfl
      | succ r =>
        have : ¬ (y < rw.length ∧ cl rw y = cl rw (y - 1)) := fun ⟨h1, h2⟩ => by
          rw [refs_length, xr.len, show ((y : Int)).toNat = y by omega, show ((y : Int) - 1).toNat = y - 1 by omega, h2, beq_self_eq_true, Bool.and_true] at hb
          have := of_decide_eq_false hb
          omega
        simp only [up, this, if_false]
    generalize up (cl rw) rw.length (rw.length - e) e = Y at q hY hy3
    subst hY
    refine x_while (s := { s with heap := h5, toks := t5 }) hA' (F4.gw g5) (fun n h m => ∃ x, m = mk x y ∧ x ≤ b ∧ n = x ∧ down (cl rw) x = down (cl rw) b) b ⟨b, rfl, Nat.le_refl _, rfl, rfl⟩ ?_
    rintro n h6 _ E'' F6 ⟨x, rfl, hx1, hx2, hx3⟩
    refine ⟨(decide ((0 : Int) < (x : Int))) && (cl rw ((x : Int) - 1).toNat == cl rw (x : Int).toNat), ?_, fun hb h7 t7 g7 => ?_, fun hb h7 t7 g7 => ?_⟩
    · refine Tr.and2 (Tr.cmp (nl F6) Ev.int c_gt) fun hlt => ?_
      have hlt : 0 < x := by have := of_decide_eq_true hlt; omega
      exact Tr.cmp (Ev.rowCl X F6 (Ev.a (nl F6) (lst_sub F6.sub xl1)) (xr1.sub F6.sub) (Ev.sub (nl F6) Ev.int) (by omega) (by omega) hz (noL F6)) (Ev.rowCl X F6 (Ev.a (nl F6) (lst_sub F6.sub xl1)) (xr1.sub F6.sub) (nl F6) (by omega) (by omega) hz (noL F6)) c_eq
    · obtain ⟨hlt, hcl⟩ := Bool.and_eq_true_iff.mp hb
      have hlt : 0 < x := by have := of_decide_eq_true hlt; omega
      obtain ⟨x, rfl⟩ : ∃ x', x = x' + 1 := ⟨x - 1, by omega⟩
      have hcl : cl rw x = cl rw (x + 1) := by
        have := eq_of_beq hcl
        rwa [show (((x + 1 : Nat) : Int)).toNat = x + 1 by omega, show (((x + 1 : Nat) : Int) - 1).toNat = x by omega] at this
      refine x_assign (s := { s with heap := h7, toks := t7 }) (u := .int (x : Nat)) hA' (F6.gw g7) (.inl (by rfl)) (Ev.cast (Ev.sub (nl (F6.gw g7)) Ev.int) (by omega)) fun h8 t8 F8 k8 => x_nil ?_
      · refine ⟨x, h8, t8, mk x y, by omega, rfl, F8, x, rfl, by omega, rfl, ?_⟩
        rw [← hx3]
        simp only [down, hcl, if_true]
    · have hX : x = down (cl rw) b := by
        rw [← hx3]
        cases x with
        | zero => rfl
        | succ x =>
          have : ¬ cl rw x = cl rw (x + 1) := fun h2 => by
            rw [show (((x + 1 : Nat) : Int)).toNat = x + 1 by omega, show (((x + 1 : Nat) : Int) - 1).toNat = x by omega, h2, beq_self_eq_true, Bool.and_true] at hb
            have := of_decide_eq_false hb
            omega
          simp only [down, this, if_false]
      subst hX
      refine x_ret hA' (Gr.tup2 (nl (F6.gw g7)) (nl (F6.gw g7))) fun v h8 t8 g8 p8 => q v h8 t8 (fun b o e => dn h8 ((F6.gw g7).gw g8).sub b o (fun q => q) e) p8
end
end Mine

set_option Elab.async false
set_option maxRecDepth 100000
set_option linter.unusedVariables false
set_option autoImplicit false
namespace Mine
open PySem PySem.W PyProof.Rows PySem.Calls PySem.SeqAt

theorem picked_all {f : Nat → V} : ∀ {n : Nat}, picked (fun _ => true) f n = (List.range n).map f
  | 0 => rfl
  | n + 1 => by simp [picked, picked_all, List.range_succ]
def cls (rw : List Tri) : List Int := rw.map (·.2.1)
theorem range_cl {rw : List Tri} : (List.range rw.length).map (fun i => V.int (cl rw i)) = (cls rw).map V.int := by
  apply List.ext_getElem
  · simp [cls]
  · intro i h1 h2
    have hi : i < rw.length := by simpa using h1
    simp [cls, cl, hi]
theorem Rw.cut {CI : Addr} {h : Heap} {as : List (Addr × Addr)} {rw : List Tri} (x : Rw CI h as rw) (i n : Nat) : Rw CI h ((as.drop i).take n) ((rw.drop i).take n) :=
  ⟨fun p hp => x.inst p (List.mem_of_mem_drop (List.mem_of_mem_take hp)), paired_take (paired_drop x.flds i) n, (List.Sublist.map (fun p : Addr × Addr => p.2) ((List.take_sublist n (as.drop i)).trans (List.drop_sublist i as))).nodup x.nd⟩
theorem cut_refs {as : List (Addr × Addr)} {i j : Nat} (hi : i ≤ j) (hj : j ≤ as.length) : Mine.cut (refs as) (some (i : Int)) (some (j : Int)) = refs ((as.drop i).take (j - i)) := by
  unfold Mine.cut lowOf highOf refs
  simp only [List.length_map, Option.elim, clip_eq]
  rw [← List.map_drop, ← List.map_take]
  congr 2
  · split <;> split <;> omega
  · congr 1
    split <;> omega
theorem Rw.alive {CI : Addr} {h : Heap} {as : List (Addr × Addr)} {rw : List Tri} (x : Rw CI h as rw) {p : Addr × Addr} (hp : p ∈ as) : ∃ o, h.get? p.2 = some o ∧ ∃ es n, o.data = .dict es n := by
  obtain ⟨i, hi⟩ := List.mem_iff_getElem?.mp hp
  obtain ⟨r, _, d⟩ := paired_get' x.flds hi
  exact Ds.dict d
/-- the dicts of the infos -/
def Wd (as : List (Addr × Addr)) (b : Addr) : Prop := ∃ p ∈ as, b = p.2
theorem Rw.wok {CI : Addr} {h : Heap} {as : List (Addr × Addr)} {rw : List Tri} (x : Rw CI h as rw) : Wok (Wd as) h := fun b ⟨p, hp, e⟩ => by
  obtain ⟨o, eo, r⟩ := x.alive hp
  exact ⟨o, e ▸ eo, .inl r⟩
theorem Rw.kw {CI : Addr} {h h' : Heap} {as : List (Addr × Addr)} {rw : List Tri} (x : Rw CI h as rw) (k1 : ∀ p ∈ as, h'.get? p.1 = some (instObj CI p.2)) (kw : KW (Wd as) h h') : Rw CI h' as rw :=
  ⟨k1, paired_mem x.flds fun p r hp d => Ds.at d fun o e => kw _ o ⟨p, hp, rfl⟩ e, x.nd⟩
/-- one info changed -/
theorem Rw.set {CI : Addr} {h h' : Heap} {as : List (Addr × Addr)} {rw : List Tri} {j : Nat} {p : Addr × Addr} {r : Tri} (x : Rw CI h as rw) (hp : as[j]? = some p) (b : But (· = p.2) h h') (d : Ds h' p.2 15 (infoF r.1 r.2.1 r.2.2)) : Rw CI h' as (rw.set j r) := by
  refine ⟨fun q hq => b _ _ (fun e => ?_) (x.inst q hq), ?_, x.nd⟩
  · obtain ⟨o, eo, es, n, hd⟩ := x.alive (List.mem_of_getElem? hp)
    rw [← e, x.inst q hq] at eo
    cases eo; cases hd
  · have key : ∀ {as : List (Addr × Addr)} {rw : List Tri} {j : Nat}, Paired (fldsOf h) as rw → (as.map (·.2)).Nodup → as[j]? = some p → Paired (fldsOf h') as (rw.set j r) := by
      intro as rw j q
      induction q generalizing j with
      | nil => intro _ e; cases e
      | @cons a r' as' rw' f q ih =>
        intro nd e
        rw [List.map_cons, List.nodup_cons] at nd
        cases j with
        | zero =>
          cases e
          refine .cons d (paired_mem q fun a' r'' ha dd => Ds.at dd fun o eo => b _ o (fun e => nd.1 (e ▸ List.mem_map.mpr ⟨a', ha, rfl⟩)) eo)
        | succ j =>
          refine .cons (Ds.at f fun o eo => b _ o (fun e' => nd.1 ?_) eo) (ih nd.2 e)
          rw [e']
          exact List.mem_map.mpr ⟨p, List.mem_of_getElem? e, rfl⟩
    exact key x.flds x.nd hp

section
variable {prog : Program} {w : World} {k : Nat} {K : Frag} {mg : Str → Option Value} {CI CB : Addr} {β : Heap}

theorem St.chgD {env : Env} {h h' : Heap} {m : List (Str × V)} {W : Addr → Prop} {I : Heap → Prop} {d : Addr} (S : St β W I env h m) (hd : W d) (b : But (· = d) h h') (x : ∃ o, h'.get? d = some o ∧ ∃ es n, o.data = .dict es n) : Fx β env h' m ∧ Wok W h' := by
  refine ⟨S.fx.sw b fun c hc => hc ▸ ⟨(S.out d hd).1, (S.out d hd).2, S.ok.notTup hd⟩, fun c hc => ?_⟩
  by_cases hcd : c = d
  · subst hcd
    obtain ⟨o, e, r⟩ := x
    exact ⟨o, e, .inl r⟩
  · obtain ⟨o, e, r⟩ := S.ok c hc
    exact ⟨o, b c o hcd e, r⟩

theorem cloc {env : Env} {scope : Scope} {C : Addr} {x : Str} (h : scope.names.lookup x = some .local) : (cEnv scope C env).kindOf x = some .local := by
  show (relabel scope env).names.lookup x = some .local
  unfold relabel
  rw [lookup_relabel, h]; rfl
theorem cglob {env : Env} {scope : Scope} {C : Addr} {x : Str} (h : scope.names.lookup x = some .globalImplicit) : (cEnv scope C env).kindOf x = some .globalImplicit := by
  show (relabel scope env).names.lookup x = some .globalImplicit
  unfold relabel
  rw [lookup_relabel, h]; rfl
theorem ccell {env : Env} {scope : Scope} {C : Addr} {x : Str} (h : scope.names.lookup x = some .free) (hk : env.scope.kind = .function) (hc : env.kindOf x = some .cell) (hm : ((clo env scope.names []).lookup x).isSome = true) : isVar (cEnv scope C env) x := by
  refine .inr ⟨?_, hm⟩
  show (relabel scope env).names.lookup x = some .cell
  unfold relabel
  rw [lookup_relabel, h, hk, hc]; rfl
theorem cnl {env : Env} {scope : Scope} {C : Addr} {h : Heap} {m : List (Str × V)} {x : Str} {pos : Pos} {u : V} (F : Fx β (cEnv scope C env) h m) (hm : get m x = some u := by rfl) (hk : scope.names.lookup x = some .local := by rfl)
    (hd : (x == ("__debug__" : Str)) = false := by decide) : Ev prog w k (cEnv scope C env) h (.Name x pos) u := Ev.name F hm (.inl (cloc hk)) hd
theorem cnc {env : Env} {scope : Scope} {C : Addr} {h : Heap} {m : List (Str × V)} {x : Str} {pos : Pos} {u : V} (F : Fx β (cEnv scope C env) h m) (hm : get m x = some u := by rfl) (hk : scope.names.lookup x = some .free := by rfl)
    (hf : env.scope.kind = .function := by rfl) (hc : env.kindOf x = some .cell := by rfl) (hl : ((clo env scope.names []).lookup x).isSome = true := by rfl)
    (hd : (x == ("__debug__" : Str)) = false := by decide) : Ev prog w k (cEnv scope C env) h (.Name x pos) u := Ev.name F hm (ccell hk hf hc hl) hd
/-- [info.cluster for info in e] -/
theorem EvL.compCl {env : Env} {h : Heap} {m : List (Str × V)} {e : Expr} {scope : Scope} {tp np ap pos : Pos} {as : List (Addr × Addr)} {rw : List Tri} (T : Tx K mg CI CB β) (F : Fx β env h m) (y : EvA prog w k env h e (refs as)) (R : Rw CI h as rw) (hz : rw.length ≤ 1000)
    (hL : ∀ p ∈ as, p.2 ≠ env.locals) (hi : scope.names.lookup ("info" : Str) = some .local) (hok : compOk scope env [] = true) (h3 : (scope.names.map (·.1)).Nodup)
    (hs : ∀ x, foldedSetIterable e env x = pure x := by intro _; rfl) :
    EvL prog w k env h (.ListComp (.Attribute (.Name "info" np) "cluster" ap) [⟨.Name "info" tp, e, [], 0⟩] scope pos) ((cls rw).map V.int) := by
  have hn : (refs as).length = rw.length := by rw [refs_length, R.len]
  have := EvL.comp (prog := prog) (w := w) (k := k) (pos := pos) (h := h) (mc := []) (elt := .Attribute (.Name "info" np) "cluster" ap) (ifs := []) (p := fun _ => true) (f := fun i => V.int (cl rw i)) (bind := fun i m => put m "info" ((refs as).getD i .none)) (scope := scope) F Subm.nil (Src.list (EvA.ww y) (Tgt.name (x := "info") (p := tp))) (by rw [hn]; exact hz)
    { hb := fun i x u e => by cases e
      hT := fun A C i u hA hu => by
        have := TkL.name (prog := prog) (w := w) (A := A) (env := cEnv scope C env) (x := "info") (p := tp) (u := u) (cloc hi)
        rw [show (refs as).getD i .none = u by rw [List.getD_eq_getElem?_getD, hu]; rfl]
        exact this
      turn := fun C i h3 hC g F3 hi' => ⟨Te.nil, fun _ => by
        rw [hn] at hi'
        obtain ⟨p, hp, hm, Ia, D⟩ := R.at hi'
        have eu : (refs as).getD i .none = .ref p.1 := by rw [List.getD_eq_getElem?_getD, refs_get hp]; rfl
        refine Ev.inf T F3 (Ev.name F3 (u := .ref p.1) (by rw [← eu]; rfl) (.inl (cloc hi))) (g.obj (notDict_plain rfl) Ia) (D.at fun o e => g.keep _ o (hL p hm) e) (fun e => ?_) (by rfl) (by decide)
        have e : p.2 = C := e
        obtain ⟨o, eo, _⟩ := R.alive hm
        rw [e, hC] at eo; cases eo⟩ } hok h3 hs
  rwa [picked_all, hn, range_cl] at this
end
end Mine

set_option Elab.async false
set_option maxRecDepth 100000
set_option linter.unusedVariables false
set_option autoImplicit false
namespace Mine
open PySem PySem.W PyProof.Rows PySem.Calls PySem.SeqAt

theorem put_more {m : List (Str × V)} {y : Str} {v : V} (h : get m y = none) : ∀ x u, get m x = some u → get (put m y v) x = some u := fun x u e => by
  rw [get_put]
  by_cases hx : x = y
  · subst hx; rw [h] at e; cases e
  · rw [if_neg hx]; exact e

/-- a stretch's infos changed, one by one -/
def sr (F : Tri → Tri) (rw : List Tri) (f : Nat) : Nat → List Tri
  | 0 => rw
  | n + 1 => (sr F rw f n).set (f + n) (F ((sr F rw f n).getD (f + n) default))
theorem sr_length {F : Tri → Tri} {rw : List Tri} {f : Nat} : ∀ {n : Nat}, (sr F rw f n).length = rw.length
  | 0 => rfl
  | n + 1 => by simp only [sr, List.length_set, sr_length]
def sc (x : Int) (r : Tri) : Tri := (r.1, x, r.2.2 && r.2.1 == x)
def slice (rw : List Tri) (i j : Nat) : List Tri := (rw.drop i).take (j - i)
def mergeP (rw : List Tri) (i j : Nat) : List Tri :=
  if j - i < 2 then rw else sr (sc (least (cls (slice rw i j)))) rw (down (cl rw) i) (up (cl rw) rw.length (rw.length - j) j - down (cl rw) i)

theorem refs_rep {h h' : Heap} : ∀ {as : List (Addr × Addr)} {vs : List Value}, Paired (Rep h) vs (refs as) → Paired (Rep h') vs (refs as)
  | [], _, p => by cases p; exact .nil
  | a :: as, _, p => by
    cases p with
    | cons r p => exact .cons r (refs_rep p)
theorem lst_refs {h h' : Heap} {l : Addr} {as : List (Addr × Addr)} (x : Lst h l (refs as)) (k : ∀ o, h.get? l = some o → h'.get? l = some o) : Lst h' l (refs as) := let ⟨vs, n, e, p⟩ := x; ⟨vs, n, k _ e, refs_rep p⟩

/-- the buffer -/
def Bo (CB : Addr) (h : Heap) (b l : Addr) (bb : Bool) : Prop := ∃ d n, h.get? b = some (instObj CB d) ∧ Ds h d n (bufF l bb)
theorem Bo.sub {CB : Addr} {h h' : Heap} {b l : Addr} {bb : Bool} (x : Bo CB h b l bb) (s : Sub h h') : Bo CB h' b l bb := let ⟨d, n, e, f⟩ := x; ⟨d, n, s _ _ e, f.at fun o e => s _ o e⟩

section
variable {prog : Program} {w : World} {k : Nat} {K : Frag} {mg : Str → Option Value} {CI CB : Addr} {β : Heap}

/-- buffer.row -/
theorem Ev.bufRow {env : Env} {h : Heap} {m : List (Str × V)} {e : Expr} {pos : Pos} {b l : Addr} {bb : Bool} (T : Tx K mg CI CB β) (F : Fx β env h m) (y : Ev prog w k env h e (.ref b)) (B : Bo CB β b l bb)
    (he : eval (.Attribute e "row" pos) env = (do let o ← eval e env; standAt pos.atName; let r ← holding [o] (getAttr o "row" true); letTemporaryGo e o r; pure r) := by with_unfolding_all rfl) :
    Ev prog w k env h (.Attribute e "row" pos) (.ref l) := by
  obtain ⟨d, n, e1, D⟩ := B
  obtain ⟨o, eo, _⟩ := D.dict
  exact Ev.fld F T.kin T.buf.2.2.1 (by decide) y (F.sub _ _ e1) (D.at fun o e => F.sub _ o e) (fun q => F.notOwnβ eo (.inl q)) (by rfl) he

/-- row[i:j] -/
theorem EvL.cutR {env : Env} {h : Heap} {e lo hi : Expr} {pos spos : Pos} {as : List (Addr × Addr)} {i j : Nat} (x : EvA prog w k env h e (refs as)) (y : Ev prog w k env h lo (.int i)) (z : Ev prog w k env h hi (.int j)) (hij : i ≤ j) (hj : j ≤ as.length) (hz : as.length ≤ 1000) :
    EvL prog w k env h (.Subscript e (.Slice (some lo) (some hi) none spos) pos) (refs ((as.drop i).take (j - i))) := by
  have := EvL.sl11 (pos := pos) (spos := spos) x y z (by rw [refs_length]; exact hz)
  rwa [cut_refs hij hj] at this

theorem merge_ok {A : Around} {s : Shared} {f b l : Addr} {bb : Bool} {vals : List Value} {R : Result → Shared → Prop} {as : List (Addr × Addr)} {rw : List Tri} {i j : Nat} (T : Tx K mg CI CB β) (hA : Lv (k + 2) A) (D : Df K β (top 7) f) (sub : Sub β s.heap)
    (hp : Paired (Rep s.heap) vals [.ref b, .int i, .int j]) (Bb : Bo CB β b l bb) (xl : Lst s.heap l (refs as)) (xr : Rw CI s.heap as rw) (wβ : ∀ p ∈ as, β.get? p.2 = none) (hij : i ≤ j) (hj : j ≤ rw.length) (hz : rw.length ≤ 1000)
    (q : ∀ h' t, But (Wd as) s.heap h' → Rw CI h' as (mergeP rw i j) → R (.ok (.ret .none)) { s with heap := h', toks := t }) :
    codeAny (model prog w) A (.call (.ref f) ⟨vals, []⟩) R s := by
  have nWl : ¬ Wd as l := fun hb => by
    obtain ⟨o, e, r⟩ := xr.wok l hb
    obtain ⟨p, hp, e1⟩ := hb
    obtain ⟨o', e2, es, n, d⟩ := xr.alive hp
    obtain ⟨vs, n', el, _⟩ := xl
    rw [← e1, el] at e2; cases e2; cases d
  have nWi : ∀ p ∈ as, ¬ Wd as p.1 := fun p hp hb => by
    obtain ⟨p', hp', e1⟩ := hb
    obtain ⟨o', e2, es, n, d⟩ := xr.alive hp'
    rw [← e1, xr.inst p hp] at e2; cases e2; cases d
  refine enterW (W := Wd as) (I := fun h => KW (Wd as) s.heap h) hA T.bs sub (fun b ⟨p, hp, e⟩ => e ▸ wβ p hp) xr.wok D hp rfl .refl (fun _ _ a b => b.trans a) fun qual cd L h1 t1 β1 E sb up' dn low fL kw S hA' => ?_
  have X := T.sub sb
  have ia : ∀ p ∈ as, β1.get? p.1 = some (instObj CI p.2) := fun p hp => up' _ _ (nWi p hp) (xr.inst p hp)
  have xl1 : Lst β1 l (refs as) := lst_refs xl (up' _ · nWl)
  have xrS : ∀ {h m}, St β1 (Wd as) (fun h => KW (Wd as) s.heap h) (dEnv (top 7) qual cd L f) h m → Rw CI h as rw := fun S => xr.kw (fun p hp => S.fx.sub _ _ (ia p hp)) S.inv
  have oL : ∀ p ∈ as, p.2 ≠ (dEnv (top 7) qual cd L f).locals := fun p hp e => (S.out _ ⟨p, hp, rfl⟩).1 (.inl e)
  refine s_if0 hA' S (Tr.cmp (Ev.sub (nl S.fx) (nl S.fx)) Ev.int c_lt) (fun e h2 t2 S2 _ => ?_) (fun e h2 t2 S2 _ => ?_)
  · refine x_ret0 (q h2 t2 (dn h2 S2.fx.sub) ?_)
    have e := of_decide_eq_true e
    rw [mergeP, if_pos (by omega)]
    exact xrS S2
  · have e := of_decide_eq_false e
    have hlt : i < j := by omega
    have xc : ∀ {h m}, St β1 (Wd as) (fun h => KW (Wd as) s.heap h) (dEnv (top 7) qual cd L f) h m → Rw CI h ((as.drop i).take (j - i)) (slice rw i j) := fun S => (xrS S).cut i (j - i)
    have za : as.length ≤ 1000 := by rw [xr.len]; exact hz
    have ls : (cls (slice rw i j)).length = j - i := by simp [cls, slice]; omega
    have ra : ∀ {h m np p}, St β1 (Wd as) (fun h => KW (Wd as) s.heap h) (dEnv (top 7) qual cd L f) h m → get m "buffer" = some (.ref b) → EvA prog w (k + 1) (dEnv (top 7) qual cd L f) h (.Attribute (.Name "buffer" np) "row" p) (refs as) := fun S hm =>
      Ev.a (Ev.bufRow X S.fx (nl S.fx hm) (Bb.sub sb)) (lst_sub S.fx.sub xl1)
    refine s_assign hA' S2 (.inl (by rfl)) (u := .int (least (cls (slice rw i j)))) (Ev.min S2.fx X.bs (by rfl) (X.none _ (by decide)) (EvL.compCl X S2.fx (as := (as.drop i).take (j - i)) (rw := slice rw i j) (EvL.cutR (ra S2 (by rfl)) (nl S2.fx) (nl S2.fx) hij (by rw [xr.len]; exact hj) za).a (xc S2) (by simp [slice]; omega) (fun p hp => oL p (List.mem_of_mem_drop (List.mem_of_mem_take hp))) (by rfl) (by rfl) (by decide)).a (by rw [ls]; omega)) fun h3 t3 S3 => ?_
    refine s_tupleC (xs := [("first", _), ("behind", _)]) hA'.hand (fun x hx => ?_) ?_
    · rcases List.mem_cons.mp hx with rfl | hx
      · exact .inl (by rfl)
      · rw [List.mem_singleton.mp hx]; exact .inl (by rfl)
    obtain ⟨fw, gw, dw⟩ := X.fn 6 (by decide)
    refine e_call hA' S3.fx X.bs X.kin (by rfl) gw dw.1 (Ar.cons (Ev.bufRow X S3.fx (nl S3.fx) (Bb.sub sb)) (Ar.cons (nl S3.fx) (Ar.cons (nl S3.fx) Ar.nil))) fun vs h4 t4 g4 pp => ?_
    have S4 := S3.gw g4
    refine widened_ok (s := { s with heap := h4, toks := t4 }) (X.sub S4.fx.sub) hA' (dw.sub S4.fx.sub) pp (lst_sub S4.fx.sub xl1) (xrS S4) hlt hj hz fun v h5 t5 s5 ⟨a, ta, tb, e1, it⟩ => ?_
    generalize hF : down (cl rw) i = F at it
    generalize hB : up (cl rw) rw.length (rw.length - j) j = B at it
    have hFi : F ≤ i := hF ▸ down_le
    have hBj : j ≤ B := hB ▸ up_ge
    have hBl : B ≤ rw.length := hB ▸ up_le hj
    have S5 := S4.gw (.ofSub s5)
    refine ⟨a, [.int F ta, .int B tb], [.int F, .int B], _, β1, e1, it, S5.fx, rfl, .cons ⟨_, rfl⟩ (.cons ⟨_, rfl⟩ .nil), fun h6 t6 F6 k6 => ?_⟩
    have S6 := S5.kp F6 k6
    generalize hM : least (cls (slice rw i j)) = M at S6
    let m0 : List (Str × V) := [("buffer", .ref b), ("begin", .int i), ("end", .int j), ("least_cluster", .int M), ("first", .int F), ("behind", .int B)]
    have S6 : St β1 (Wd as) (fun h => KW (Wd as) s.heap h) (dEnv (top 7) qual cd L f) h6 m0 := S6
    have hlen : (refs ((as.drop F).take (B - F))).length = B - F := by rw [refs_length, List.length_take, List.length_drop, xr.len]; omega
    obtain ⟨fs, gs, ds⟩ := X.fn 5 (by decide)
    refine s_for (s := { s with heap := h6, toks := t6 }) hA' S6 (Src.list ((EvL.cutR (ra S6 (by rfl)) (nl S6.fx) (nl S6.fx) (by omega) (by rw [xr.len]; exact hBl) za).aW S6.ok.al) Tgt.name) (fun i m => put m "info" ((refs ((as.drop F).take (B - F))).getD i .none)) (fun A hA i u hu => ?_)
      (fun i h m1 => m1 = m0 ∧ Rw CI h as (sr (sc M) rw F i)) (fun h' g => ⟨rfl, xrS (S6.gw g)⟩) (fun i h7 h8 m1 F7 ok7 kf kw ⟨em, R⟩ => ⟨em, R.kw (fun p hp => kf _ _ (F7.notOwn (R.inst p hp) (fun _ _ q => by cases q) (fun _ q => by cases q)) (fun _ q => by cases q) (R.inst p hp)) kw⟩) ?_ ?_
    · rw [show (refs ((as.drop F).take (B - F))).getD i .none = u by rw [List.getD_eq_getElem?_getD, hu]; rfl]
      exact TkL.name (by rfl)
    · rintro n h7 t7 _ β2 E' hn sb2 all2 S7 ⟨rfl, R7⟩
      rw [hlen] at hn
      obtain ⟨p, hp, hm, Ia, Dp⟩ := R7.at (i := F + n) (by rw [sr_length]; omega)
      have eu : (refs ((as.drop F).take (B - F))).getD n .none = .ref p.1 := by
        have : ((as.drop F).take (B - F))[n]? = some p := by rw [List.getElem?_take_of_lt hn, List.getElem?_drop]; exact hp
        rw [List.getD_eq_getElem?_getD, refs_get this]; rfl
      refine s_expr (e_call hA' S7.fx (X.bs.sub sb2) (X.kin.keeps sb2) (by rfl) gs ds.1 (Ar.cons (u := .ref p.1) (nl S7.fx (by rw [← eu]; rfl)) (Ar.cons (u := .int M) (nl S7.fx (by rfl)) Ar.nil)) fun vs h8 t8 g8 pp => ?_)
      have S8 := S7.gw g8
      have hd : Wd as p.2 := ⟨p, hm, rfl⟩
      refine set_cluster_ok (s := { s with heap := h8, toks := t8 }) (X.sub sb2) hA' (ds.sub sb2) S8.fx.sub pp (sb2 _ _ (ia p hm)) (S8.out _ hd).2 (Dp.at fun o e => S8.inv _ o hd e) fun h9 t9 b9 D9 => x_nil ?_
      obtain ⟨F9, ok9⟩ := S8.chgD hd b9 D9.dict
      refine ⟨h9, t9, m0, rfl, F9.less (put_more (by rfl)), ok9, rfl, ?_⟩
      have R8 : Rw CI h8 as (sr (sc M) rw F n) := R7.kw (fun p hp => S8.fx.sub _ _ (sb2 _ _ (ia p hp))) S8.inv
      exact R8.set hp b9 D9
    · rintro h7 t7 _ S7 ⟨rfl, R7⟩
      refine x_nil (q h7 t7 (dn h7 S7.fx.sub) ?_)
      rw [hlen] at R7
      rw [mergeP, if_neg (by omega), hF, hB, hM]
      exact R7
end
end Mine

set_option Elab.async false
set_option maxRecDepth 100000
set_option linter.unusedVariables false
set_option autoImplicit false
namespace Mine
open PySem PySem.W PyProof.Rows PySem.Calls PySem.SeqAt

def hc (M : Int) (r : Tri) : Tri := (r.1, r.2.1, r.2.2 || r.2.1 != M)
def hangP (rw : List Tri) (i j : Nat) : List Tri := if j - i < 2 then rw else sr (hc (least (cls (slice rw i j)))) rw i (j - i)

section
variable {prog : Program} {w : World} {k : Nat} {K : Frag} {mg : Str → Option Value} {CI CB : Addr} {β : Heap}

theorem lst_notW {β h : Heap} {env : Env} {m : List (Str × V)} {W : Addr → Prop} {I : Heap → Prop} {l : Addr} {us : List V} (S : St β W I env h m) (x : Lst β l us) : ¬ W l := fun hb => by
  obtain ⟨vs, n, e, _⟩ := x
  rw [(S.out l hb).2] at e; cases e
theorem rw_list {CI : Addr} {h : Heap} {as : List (Addr × Addr)} {rw : List Tri} {l : Addr} {us : List V} (x : Rw CI h as rw) (xl : Lst h l us) : ¬ Wd as l := fun hb => by
  obtain ⟨p, hp, e1⟩ := hb
  obtain ⟨o', e2, es, n, d⟩ := x.alive hp
  obtain ⟨vs, n', el, _⟩ := xl
  rw [← e1, el] at e2; cases e2; cases d
theorem rw_inst {CI : Addr} {h : Heap} {as : List (Addr × Addr)} {rw : List Tri} (x : Rw CI h as rw) : ∀ p ∈ as, ¬ Wd as p.1 := fun p hp hb => by
  obtain ⟨p', hp', e1⟩ := hb
  obtain ⟨o', e2, es, n, d⟩ := x.alive hp'
  rw [← e1, x.inst p hp] at e2; cases e2; cases d

theorem Rw.setK {CI : Addr} {h h' : Heap} {as : List (Addr × Addr)} {rw : List Tri} {j : Nat} {p : Addr × Addr} {r : Tri} (x : Rw CI h as rw) (hp : as[j]? = some p) (k1 : ∀ q ∈ as, h'.get? q.1 = some (instObj CI q.2)) (k2 : ∀ q ∈ as, q.2 ≠ p.2 → ∀ o, h.get? q.2 = some o → h'.get? q.2 = some o) (d : Ds h' p.2 15 (infoF r.1 r.2.1 r.2.2)) : Rw CI h' as (rw.set j r) := by
  refine ⟨k1, ?_, x.nd⟩
  have key : ∀ {as : List (Addr × Addr)} {rw : List Tri} {j : Nat}, Paired (fldsOf h) as rw → (as.map (·.2)).Nodup → as[j]? = some p → (∀ q ∈ as, q.2 ≠ p.2 → ∀ o, h.get? q.2 = some o → h'.get? q.2 = some o) → Paired (fldsOf h') as (rw.set j r) := by
    intro as rw j q
    induction q generalizing j with
    | nil => intro _ e; cases e
    | @cons a r' as' rw' f q ih =>
      intro nd e k2
      rw [List.map_cons, List.nodup_cons] at nd
      cases j with
      | zero =>
        cases e
        refine .cons d (paired_mem q fun a' r'' ha dd => Ds.at dd (k2 a' (.tail _ ha) fun e => nd.1 (e ▸ List.mem_map.mpr ⟨a', ha, rfl⟩)))
      | succ j =>
        refine .cons (Ds.at f (k2 a (.head _) fun e' => nd.1 ?_)) (ih nd.2 e fun q hq => k2 q (.tail _ hq))
        rw [e']
        exact List.mem_map.mpr ⟨p, List.mem_of_getElem? e, rfl⟩
  exact key x.flds x.nd hp k2
theorem set_self {l : List Tri} {j : Nat} (hj : j < l.length) : l.set j (l.getD j default) = l := by
  rw [List.getD_eq_getElem?_getD, List.getElem?_eq_getElem hj]
  exact List.set_getElem_self hj

theorem hang_ok {A : Around} {s : Shared} {f b l : Addr} {bb : Bool} {vals : List Value} {R : Result → Shared → Prop} {as : List (Addr × Addr)} {rw : List Tri} {i j : Nat} (T : Tx K mg CI CB β) (hA : Lv (k + 1) A) (D : Df K β (top 8) f) (sub : Sub β s.heap)
    (hp : Paired (Rep s.heap) vals [.ref b, .int i, .int j]) (Bb : Bo CB β b l bb) (xl : Lst s.heap l (refs as)) (xr : Rw CI s.heap as rw) (wβ : ∀ p ∈ as, β.get? p.2 = none) (hij : i ≤ j) (hj : j ≤ rw.length) (hz : rw.length ≤ 1000)
    (q : ∀ h' t, But (Wd as) s.heap h' → Rw CI h' as (hangP rw i j) → R (.ok (.ret .none)) { s with heap := h', toks := t }) :
    codeAny (model prog w) A (.call (.ref f) ⟨vals, []⟩) R s := by
  have nWi := rw_inst xr
  refine enterW (W := Wd as) (I := fun h => KW (Wd as) s.heap h) hA T.bs sub (fun b ⟨p, hp, e⟩ => e ▸ wβ p hp) xr.wok D hp rfl .refl (fun _ _ a b => b.trans a) fun qual cd L h1 t1 β1 E sb up' dn low fL kw S hA' => ?_
  have X := T.sub sb
  have ia : ∀ p ∈ as, β1.get? p.1 = some (instObj CI p.2) := fun p hp => up' _ _ (nWi p hp) (xr.inst p hp)
  have xl1 : Lst β1 l (refs as) := lst_refs xl (up' _ · (rw_list xr xl))
  have xrS : ∀ {β' h m}, Sub β1 β' → St β' (Wd as) (fun h => KW (Wd as) s.heap h) (dEnv (top 8) qual cd L f) h m → Rw CI h as rw := fun sb S => xr.kw (fun p hp => S.fx.sub _ _ (sb _ _ (ia p hp))) S.inv
  have oL : ∀ p ∈ as, p.2 ≠ (dEnv (top 8) qual cd L f).locals := fun p hp e => (S.out _ ⟨p, hp, rfl⟩).1 (.inl e)
  have za : as.length ≤ 1000 := by rw [xr.len]; exact hz
  refine s_assignL hA' S (.inl (by rfl)) (EvL.cutR (Ev.a (Ev.bufRow X S.fx (nl S.fx) (Bb.sub sb)) (lst_sub S.fx.sub xl1)) (nl S.fx) (nl S.fx) hij (by rw [xr.len]; exact hj) za) fun β2 st h2 t2 sb2 xs fs S2 => ?_
  have hlen : (refs ((as.drop i).take (j - i))).length = j - i := by rw [refs_length, List.length_take, List.length_drop, xr.len]; omega
  have X2 := X.sub sb2
  refine s_if0 hA' S2 (Tr.cmp (Ev.len S2.fx X2.bs (by rfl) (X.none _ (by decide)) (Ev.a (nl S2.fx) (lst_sub S2.fx.sub xs)) (by rw [hlen]; omega)) Ev.int c_lt) (fun e h3 t3 S3 _ => ?_) (fun e h3 t3 S3 _ => ?_)
  · refine x_ret0 (q h3 t3 (dn h3 (fun b o e => S3.fx.sub b o (sb2 b o e))) ?_)
    have e := of_decide_eq_true e
    rw [hlen] at e
    rw [hangP, if_pos (by omega)]
    exact xrS sb2 S3
  · have e := of_decide_eq_false e
    rw [hlen] at e
    have ls : (cls (slice rw i j)).length = j - i := by simp [cls, slice]; omega
    refine s_assign hA' S3 (.inl (by rfl)) (u := .int (least (cls (slice rw i j)))) (Ev.min S3.fx X2.bs (by rfl) (X.none _ (by decide)) (EvL.compCl X2 S3.fx (as := (as.drop i).take (j - i)) (rw := slice rw i j) (Ev.a (nl S3.fx) (lst_sub S3.fx.sub xs)) ((xrS sb2 S3).cut i (j - i)) (by simp [slice]; omega) (fun p hp => oL p (List.mem_of_mem_drop (List.mem_of_mem_take hp))) (by rfl) (by rfl) (by decide)).a (by rw [ls]; omega)) fun h4 t4 S4 => ?_
    generalize hM : least (cls (slice rw i j)) = M at S4
    let m0 : List (Str × V) := [("buffer", .ref b), ("begin", .int i), ("end", .int j), ("stretch", .ref st), ("least_cluster", .int M)]
    have S4 : St β2 (Wd as) (fun h => KW (Wd as) s.heap h) (dEnv (top 8) qual cd L f) h4 m0 := S4
    refine s_for (s := { s with heap := h4, toks := t4 }) hA' S4 (Src.list (Ev.aW (nl S4.fx) (lst_sub S4.fx.sub xs) (lst_notW S4 xs)) Tgt.name) (fun i' m => put m "info" ((refs ((as.drop i).take (j - i))).getD i' .none)) (fun A hA i u hu => ?_)
      (fun n h m1 => m1 = m0 ∧ Rw CI h as (sr (hc M) rw i n)) (fun h' g => ⟨rfl, xrS sb2 (S4.gw g)⟩) (fun n h7 h8 m1 F7 ok7 kf kw ⟨em, R⟩ => ⟨em, R.kw (fun p hp => kf _ _ (F7.notOwn (R.inst p hp) (fun _ _ q => by cases q) (fun _ q => by cases q)) (fun _ q => by cases q) (R.inst p hp)) kw⟩) ?_ ?_
    · rw [show (refs ((as.drop _).take (j - _))).getD i .none = u by rw [List.getD_eq_getElem?_getD, hu]; rfl]
      exact TkL.name (by rfl)
    · rintro n h7 t7 _ β3 E' hn sb3 all3 S7 ⟨rfl, R7⟩
      rw [hlen] at hn
      obtain ⟨p, hp, hm, Ia, Dp⟩ := R7.at (i := i + n) (by rw [sr_length]; omega)
      have eu : (refs ((as.drop i).take (j - i))).getD n .none = .ref p.1 := by
        have : ((as.drop i).take (j - i))[n]? = some p := by rw [List.getElem?_take_of_lt hn, List.getElem?_drop]; exact hp
        rw [List.getD_eq_getElem?_getD, refs_get this]; rfl
      have X3 := X2.sub sb3
      have hd : Wd as p.2 := ⟨p, hm, rfl⟩
      have ip : ∀ {h m}, Fx β3 (dEnv (top 8) qual cd L f) h m → h.get? p.1 = some (instObj CI p.2) := fun F => F.sub _ _ (sb3 _ _ (sb2 _ _ (ia p hm)))
      refine s_if0 hA' S7 (Tr.cmp (Ev.inf X3 S7.fx (a := p.1) (nl S7.fx (by rw [← eu]; rfl)) (ip S7.fx) Dp (oL p hm)) (nl S7.fx (by rfl)) c_ne) (fun e h8 t8 S8 _ => ?_) (fun e h8 t8 S8 _ => ?_)
      · have R8 : Rw CI h8 as (sr (hc M) rw i n) := R7.kw (fun p hp => S8.fx.sub _ _ (sb3 _ _ (sb2 _ _ (ia p hp)))) S8.inv
        refine s_setattr hA' S8 X3.kin X3.info.2.2.1 (x := "is_unsafe") (by decide) Ev.bool (fun _ _ _ q => by cases q) (a := p.1) (nl S8.fx (by rw [← eu]; rfl)) (ip S8.fx) (Dp.at fun o e => S8.inv _ o hd e) hd (by decide) (fun h9 t9 D9 k9 F9 ok9 => x_nil (x_nil ?_))
        refine ⟨h9, t9, m0, rfl, F9.less (put_more (by rfl)), ok9, rfl, ?_⟩
        refine R8.setK hp (fun q hq => F9.sub _ _ (sb3 _ _ (sb2 _ _ (ia q hq)))) (fun q hq hne o e => k9 _ o hne (oL q hq) e) ?_
        have e' : ((sr (hc M) rw i n).getD (i + n) default).2.1 != M := e
        simp only [hc, e', Bool.or_true]
        exact D9
      · refine x_nil ⟨h8, t8, m0, rfl, S8.fx.less (put_more (by rfl)), S8.ok, rfl, ?_⟩
        have e' : (((sr (hc M) rw i n).getD (i + n) default).2.1 != M) = false := e
        have : hc M ((sr (hc M) rw i n).getD (i + n) default) = (sr (hc M) rw i n).getD (i + n) default := by simp only [hc, e', Bool.or_false]
        simp only [sr]
        rw [this, set_self (by rw [sr_length]; omega)]
        exact R7.kw (fun p hp => S8.fx.sub _ _ (sb3 _ _ (sb2 _ _ (ia p hp)))) S8.inv
    · rintro h7 t7 _ S7 ⟨rfl, R7⟩
      refine x_nil (q h7 t7 (dn h7 (fun b o e => S7.fx.sub b o (sb2 b o e))) ?_)
      rw [hlen] at R7
      rw [hangP, if_neg (by omega), hM]
      exact R7
end
end Mine

set_option Elab.async false
set_option maxRecDepth 100000
set_option linter.unusedVariables false
set_option autoImplicit false
namespace Mine
open PySem PySem.W PyProof.Rows PySem.Calls PySem.SeqAt

def besides (rw : List Tri) (a : Nat) : List Int := (if 1 ≤ a then [cl rw (a - 1)] else []) ++ (if a + 1 < rw.length then [cl rw (a + 1)] else [])
def dl (c before : Int) : List Tri → Nat → List Tri
  | rw, 0 => rw
  | rw, n + 1 => if c < before ∧ cl rw n = before then dl c before (rw.set n (sc c (rw.getD n default))) n else rw
def dropP (rw : List Tri) (a : Nat) : List Tri :=
  if cl rw a ∈ besides rw a ∨ besides rw a = [] then rw else if 0 < a then dl (cl rw a) (cl rw (a - 1)) rw a else mergeP rw a (a + 2)

section
variable {prog : Program} {w : World} {k : Nat} {K : Frag} {mg : Str → Option Value} {CI CB : Addr} {β : Heap}

theorem drop_ok {A : Around} {s : Shared} {f b l : Addr} {bb : Bool} {vals : List Value} {R : Result → Shared → Prop} {as : List (Addr × Addr)} {rw : List Tri} {a : Nat} (T : Tx K mg CI CB β) (hA : Lv (k + 3) A) (D : Df K β (top 9) f) (sub : Sub β s.heap)
    (hp : Paired (Rep s.heap) vals [.ref b, .int a]) (Bb : Bo CB β b l bb) (xl : Lst s.heap l (refs as)) (xr : Rw CI s.heap as rw) (wβ : ∀ p ∈ as, β.get? p.2 = none) (ha : a < rw.length) (hz : rw.length ≤ 1000)
    (q : ∀ h' t, But (Wd as) s.heap h' → Rw CI h' as (dropP rw a) → R (.ok (.ret .none)) { s with heap := h', toks := t }) :
    codeAny (model prog w) A (.call (.ref f) ⟨vals, []⟩) R s := by
  have nWi := rw_inst xr
  refine enterW (W := Wd as) (I := fun h => KW (Wd as) s.heap h) hA T.bs sub (fun b ⟨p, hp, e⟩ => e ▸ wβ p hp) xr.wok D hp rfl .refl (fun _ _ a b => b.trans a) fun qual cd L h1 t1 β1 E sb up' dn low fL kw S hA' => ?_
  have X := T.sub sb
  have ia : ∀ p ∈ as, β1.get? p.1 = some (instObj CI p.2) := fun p hp => up' _ _ (nWi p hp) (xr.inst p hp)
  have xl1 : Lst β1 l (refs as) := lst_refs xl (up' _ · (rw_list xr xl))
  have xrS : ∀ {β' h m}, Sub β1 β' → St β' (Wd as) (fun h => KW (Wd as) s.heap h) (dEnv (top 9) qual cd L f) h m → Rw CI h as rw := fun sb S => xr.kw (fun p hp => S.fx.sub _ _ (sb _ _ (ia p hp))) S.inv
  have oL : ∀ p ∈ as, p.2 ≠ (dEnv (top 9) qual cd L f).locals := fun p hp e => (S.out _ ⟨p, hp, rfl⟩).1 (.inl e)
  have za : as.length ≤ 1000 := by rw [xr.len]; exact hz
  have zr : (refs as).length ≤ 1000 := by rw [refs_length]; exact za
  refine s_assign hA' S (isVar_cell (by rfl)) (Ev.bufRow X S.fx (nl S.fx) (Bb.sub sb)) fun h2 t2 S2 => ?_
  refine s_assign hA' S2 (.inl (by rfl)) (Ev.rowCl X S2.fx (Ev.a (nc S2.fx) (lst_sub S2.fx.sub xl1)) (xrS .refl S2) (nl S2.fx) (by omega) (by omega) hz oL) fun h3 t3 S3 => ?_
  rw [show (a : Int).toNat = a by omega] at S3
  refine s_assignComp hA' S3 (mc := [("row", .ref l)]) (.cons (by rfl) .nil) (Src.tup (W := no) al_no (u := .int ((a : Int) - 1)) (v := .int ((a : Int) + 1)) (Ar.cons (Ev.sub (nl S3.fx) Ev.int) (Ar.cons (Ev.add (nl S3.fx) Ev.int) Ar.nil)) ⟨_, _, rfl⟩) (by show 2 ≤ 1000; omega)
    (bind := fun i m => put m "spot" (([V.int ((a : Int) - 1), V.int ((a : Int) + 1)] : List V).getD i .none))
    (p := fun i => decide (0 ≤ ([(a : Int) - 1, (a : Int) + 1].getD i 0)) && decide ([(a : Int) - 1, (a : Int) + 1].getD i 0 < (refs as).length)) (f := fun i => .int (cl rw ([(a : Int) - 1, (a : Int) + 1].getD i 0).toNat))
    ⟨fun i x u e => ?_, fun A C i u hA hu => ?_, fun C i h4 hC g F4 hi => ?_⟩ (by rfl) (by rfl) (by decide) fun β2 lb h4 t4 sb2 xb fb S4 => ?_
  · rw [get_put]
    by_cases hx : x = "spot"
    · subst hx; cases e
    · rw [if_neg hx]; exact e
  · rw [show (([V.int ((a : Int) - 1), V.int ((a : Int) + 1)] : List V).getD i .none) = u by rw [List.getD_eq_getElem?_getD, hu]; rfl]
    exact TkL.name (cloc (by rfl))
  · have hi : i < 2 := hi
    obtain ⟨v, hv1, hv2, hv3⟩ : ∃ v : Int, ([V.int ((a : Int) - 1), V.int ((a : Int) + 1)] : List V).getD i .none = .int v ∧ ([(a : Int) - 1, (a : Int) + 1].getD i 0) = v ∧ -1 ≤ v := by
      rcases i with _ | _ | i
      · exact ⟨_, rfl, rfl, by omega⟩
      · exact ⟨_, rfl, rfl, by omega⟩
      · omega
    rw [hv1] at F4
    simp only [hv2]
    refine ⟨Te.one (Tr.cmp2 Ev.int (cnl F4 (u := .int v)) (Ev.len F4 X.bs (cglob (by rfl)) (X.none _ (by decide)) (Ev.a (cnc F4 (u := .ref l)) (lst_sub F4.sub xl1)) zr) c_le c_lt), fun hb => ?_⟩
    obtain ⟨h0, h1⟩ := Bool.and_eq_true_iff.mp hb
    have h0 := of_decide_eq_true h0
    have h1 := of_decide_eq_true h1
    rw [refs_length, xr.len] at h1
    refine Ev.rowCl X F4 (Ev.a (cnc F4 (u := .ref l)) (lst_sub F4.sub xl1)) ((xrS .refl S3).gw g oL) (cnl F4 (u := .int v)) h0 h1 hz (fun p hp e => ?_)
    have e : p.2 = C := e
    obtain ⟨o, eo, _⟩ := (xrS .refl S3).alive hp
    rw [e, hC] at eo; cases eo
  · have hbs : picked (fun i => decide (0 ≤ ([(a : Int) - 1, (a : Int) + 1].getD i 0)) && decide ([(a : Int) - 1, (a : Int) + 1].getD i 0 < (refs as).length)) (fun i => V.int (cl rw ([(a : Int) - 1, (a : Int) + 1].getD i 0).toNat)) [V.int ((a : Int) - 1), V.int ((a : Int) + 1)].length = (besides rw a).map V.int := by
      rw [refs_length, xr.len]
      have e0 : (decide (0 ≤ (a : Int) - 1) && decide ((a : Int) - 1 < (rw.length : Int))) = decide (1 ≤ a) := by rw [Bool.eq_iff_iff]; simp; omega
      have e1 : (decide (0 ≤ (a : Int) + 1) && decide ((a : Int) + 1 < (rw.length : Int))) = decide (a + 1 < rw.length) := by rw [Bool.eq_iff_iff]; simp; omega
      show ([] ++ (if (decide (0 ≤ (a : Int) - 1) && decide ((a : Int) - 1 < (rw.length : Int))) = true then [V.int (cl rw ((a : Int) - 1).toNat)] else [])) ++ (if (decide (0 ≤ (a : Int) + 1) && decide ((a : Int) + 1 < (rw.length : Int))) = true then [V.int (cl rw ((a : Int) + 1).toNat)] else []) = _
      rw [e0, e1, show ((a : Int) - 1).toNat = a - 1 by omega, show ((a : Int) + 1).toNat = a + 1 by omega]
      unfold besides
      simp only [decide_eq_true_eq, List.nil_append, List.map_append]
      congr 1
      · split <;> rfl
      · split <;> rfl
    rw [hbs] at xb
    have X2 := X.sub sb2
    have hnil : ((besides rw a).map V.int).isEmpty = (besides rw a).isEmpty := by cases besides rw a <;> rfl
    refine s_if0 hA' S4 (Tr.or2 (Tr.inInts (nl S4.fx) (Ev.a (nl S4.fx) (lst_sub S4.fx.sub xb))) fun _ => Tr.eqNil (Ev.a (nl S4.fx) (lst_sub S4.fx.sub xb)) (EvL.disp Ar.nil (by decide)).a) (fun e h5 t5 S5 _ => ?_) (fun e h5 t5 S5 _ => ?_)
    · refine x_ret0 (q h5 t5 (dn h5 (fun b o e => S5.fx.sub b o (sb2 b o e))) ?_)
      rw [hnil] at e
      have : cl rw a ∈ besides rw a ∨ besides rw a = [] := by
        rcases Bool.or_eq_true_iff.mp e with e | e
        · exact .inl (by simpa using e)
        · exact .inr (by simpa using e)
      rw [dropP, if_pos this]
      exact xrS sb2 S5
    · rw [hnil] at e
      have hno : ¬ (cl rw a ∈ besides rw a ∨ besides rw a = []) := by
        rw [Bool.or_eq_false_iff] at e
        rintro (h | h)
        · have := e.1; simp [h] at this
        · have := e.2; simp [h] at this
      refine s_if hA' S5 (Tr.cmp (nl S5.fx) Ev.int c_gt) (fun e2 h6 t6 S6 _ => ?_) (fun e2 h6 t6 S6 _ => ?_)
      · have ha0 : 0 < a := by have := of_decide_eq_true e2; omega
        have xl2 : Lst β2 l (refs as) := lst_sub sb2 xl1
        have ia2 : ∀ p ∈ as, β2.get? p.1 = some (instObj CI p.2) := fun p hp => sb2 _ _ (ia p hp)
        refine s_assign hA' S6 (.inl (by rfl)) (Ev.rowCl X2 S6.fx (Ev.a (nc S6.fx) (lst_sub S6.fx.sub xl2)) (xrS sb2 S6) (Ev.sub (nl S6.fx) Ev.int) (by omega) (by omega) hz oL) fun h7 t7 S7 => ?_
        rw [show ((a : Int) - 1).toNat = a - 1 by omega] at S7
        refine s_assign hA' S7 (.inl (by rfl)) (Ev.sub (nl S7.fx) Ev.int) fun h8 t8 S8 => ?_
        generalize hc : cl rw a = c at S8
        generalize hb : cl rw (a - 1) = bf at S8
        let mk : Int → List (Str × V) := fun x => [("buffer", .ref b), ("at", .int a), ("row", .ref l), ("cluster", .int c), ("beside", .ref lb), ("before", .int bf), ("spot", .int x)]
        refine x_while (s := { s with heap := h8, toks := t8 }) hA' S8.fx (fun n h m => ∃ cur, m = mk ((n : Int) - 1) ∧ cur.length = rw.length ∧ Rw CI h as cur ∧ dl c bf cur n = dl c bf rw a ∧ n ≤ a) a ⟨rw, rfl, rfl, xrS sb2 S8, rfl, Nat.le_refl _⟩ ?_
        rintro n h9 _ E' F9 ⟨cur, rfl, hlen, R9, hd, hna⟩
        have S9 : St β2 (Wd as) (KW (Wd as) h9) (dEnv (top 9) qual cd L f) h9 (mk ((n : Int) - 1)) := ⟨F9, S8.out, R9.wok, .refl, fun _ _ a b => b.trans a⟩
        refine ⟨decide (c < bf) && (decide (0 ≤ (n : Int) - 1) && ((cl cur ((n : Int) - 1).toNat == bf) && true)), ?_, fun hb' h10 t10 g10 => ?_, fun hb' h10 t10 g10 => ?_⟩
        · refine Tr.and (Tr.cmp (nl F9) (nl F9) c_lt) fun _ => Tr.and (Tr.cmp (nl F9) Ev.int c_ge) fun h0 => Tr.and (Tr.cmp (Ev.rowCl X2 F9 (Ev.a (nc F9) (lst_sub F9.sub xl2)) R9 (nl F9) (of_decide_eq_true h0) (by omega) (by omega) oL) (nl F9) c_eq) fun _ => Tr.and_nil
        · simp only [Bool.and_eq_true, decide_eq_true_eq, beq_iff_eq, and_true] at hb'
          obtain ⟨c1, c2, c3⟩ := hb'
          obtain ⟨n, rfl⟩ : ∃ n', n = n' + 1 := ⟨n - 1, by omega⟩
          rw [show (((n + 1 : Nat) : Int) - 1).toNat = n by omega] at c3
          have S10 := S9.gw g10
          have R10 : Rw CI h10 as cur := R9.kw (fun p hp => S10.fx.sub _ _ (ia2 p hp)) S10.inv
          obtain ⟨p, hp, hm, Ia, Dp⟩ := R10.at (i := n) (by omega)
          obtain ⟨fs, gs, ds⟩ := X2.fn 5 (by decide)
          refine s_expr (s := { s with heap := h10, toks := t10 }) (e_call hA' S10.fx X2.bs X2.kin (by rfl) gs ds.1 (Ar.cons (u := .ref p.1) (Ev.rowAt (l := 0) (Ev.a (nc S10.fx) (lst_sub S10.fx.sub xl2)) (nl S10.fx) (by omega) za (by rw [show (((n + 1 : Nat) : Int) - 1).toNat = n by omega]; exact hp)) (Ar.cons (u := .int c) (nl S10.fx) Ar.nil)) fun vs h11 t11 g11 pp => ?_)
          have S11 := S10.gw g11
          have hW : Wd as p.2 := ⟨p, hm, rfl⟩
          refine set_cluster_ok (s := { s with heap := h11, toks := t11 }) X2 hA' ds S11.fx.sub pp (ia2 p hm) (S11.out _ hW).2 (Dp.at fun o e => g11.keep _ o (oL p hm) e) fun h12 t12 b12 D12 => ?_
          obtain ⟨F12, ok12⟩ := S11.chgD hW b12 D12.dict
          have R12 : Rw CI h12 as (cur.set n (sc c (cur.getD n default))) := Rw.set (R10.gw g11 oL) hp b12 D12
          refine x_assign (s := { s with heap := h12, toks := t12 }) hA' F12 (.inl (by rfl)) (u := .int ((n : Int) - 1)) (Ev.cast (Ev.sub (nl F12) Ev.int) (by omega)) fun h13 t13 F13 k13 => x_nil ?_
          have S12 : St β2 (Wd as) (KW (Wd as) h12) (dEnv (top 9) qual cd L f) h12 (mk (((n + 1 : Nat) : Int) - 1)) := ⟨F12, S8.out, ok12, .refl, fun _ _ a b => b.trans a⟩
          refine ⟨n, h13, t13, mk ((n : Int) - 1), by omega, rfl, F13, _, rfl, by rw [List.length_set]; exact hlen, R12.kw (fun p hp => F13.sub _ _ (ia2 p hp)) (S12.kwKp k13), ?_, by omega⟩
          rw [← hd]
          show _ = if _ then _ else _
          rw [if_pos ⟨c1, c3⟩]
        · have R10 : Rw CI h10 as cur := R9.kw (fun p hp => (S9.gw g10).fx.sub _ _ (ia2 p hp)) (S9.gw g10).inv
          refine x_nil (x_nil (q h10 t10 (dn h10 (fun b o e => (S9.gw g10).fx.sub b o (sb2 b o e))) ?_))
          rw [dropP, if_neg hno, if_pos ha0, hc, hb, ← hd]
          cases n with
          | zero => exact R10
          | succ n =>
            have : ¬ (c < bf ∧ cl cur n = bf) := fun ⟨c1, c3⟩ => by
              rw [show (((n + 1 : Nat) : Int) - 1).toNat = n by omega, c3, beq_self_eq_true, decide_eq_true c1] at hb'
              simp at hb'
            simp only [dl, this, if_false]
            exact R10
      · have ha0 : a = 0 := by have := of_decide_eq_false e2; omega
        subst ha0
        have h2 : 1 < rw.length := by
          have : besides rw 0 ≠ [] := fun h => hno (.inr h)
          simp only [besides] at this
          split at this
          · omega
          · split at this
            · omega
            · simp at this
        obtain ⟨fm, gm, dm⟩ := X2.fn 7 (by decide)
        refine s_expr (e_call hA' S6.fx X2.bs X2.kin (by rfl) gm dm.1 (Ar.cons (u := .ref b) (nl S6.fx) (Ar.cons (u := .int (0 : Nat)) (nl S6.fx) (Ar.cons (u := .int (2 : Nat)) (Ev.cast (Ev.add (nl S6.fx) Ev.int) (by rfl)) Ar.nil))) fun vs h7 t7 g7 pp => ?_)
        have S7 := S6.gw g7
        refine merge_ok (s := { s with heap := h7, toks := t7 }) X2 hA' dm S7.fx.sub pp (Bb.sub (fun b o e => sb2 b o (sb b o e))) (lst_sub S7.fx.sub (lst_sub sb2 xl1)) (xrS sb2 S7) (fun p hp => (S7.out _ ⟨p, hp, rfl⟩).2) (by omega) h2 hz fun h8 t8 b8 R8 => x_nil (x_nil (q h8 t8 (fun b o hb e => ?_) ?_))
        · exact b8 b o hb (dn h7 (fun b o e => S7.fx.sub b o (sb2 b o e)) b o hb e)
        · rw [dropP, if_neg hno, if_neg (by omega)]
          exact R8
end
end Mine

set_option Elab.async false
set_option maxRecDepth 100000
set_option linter.unusedVariables false
set_option autoImplicit false
namespace Mine
open PySem PySem.W PyProof.Rows PySem.Calls PySem.SeqAt

section
variable {prog : Program} {w : World} {k : Nat} {K : Frag} {mg : Str → Option Value} {CI CB : Addr} {β : Heap}

/-- o.x = value, where o alone changes -/
theorem s_setself {env : Env} {m : List (Str × V)} {C a d : Addr} {xs : List Str} {n : Nat} {fs : List (Str × V)} {A : Around} {s : Shared} {x : Str} {value o : Expr} {u : V} {p1 pos : Pos} {rest : List Stmt} {Q : Flow → Shared → Prop} {E : Value → Shared → Prop} (hA : Lv k A)
    (S : St β (· = d) (fun h => Ds h d n fs) env s.heap m) (X : K.In β) (Y : Kc K C xs) (Ia : β.get? a = some (instObj C d)) (hx : x ∈ xs) (hn : n ≤ 900)
    (y : Ev prog w k env s.heap value u) (hu : ∀ g c b, u ≠ .tri g c b) (z : Ev prog w k env s.heap o (.ref a))
    (q : ∀ h' t, St β (· = d) (fun h => Ds h d (if (get fs x).isSome then n else n + 1) (put fs x u)) env h' m → wpAny (model prog w) A (execs rest env) Q E { s with heap := h', toks := t })
    (hs : swapsWith value (some (.Attribute o x p1)) pos.line env = pure false := by rfl) :
    wpAny (model prog w) A (execs (.Assign [.Attribute o x p1] value pos :: rest) env) Q E s :=
  s_setattr hA S X Y hx y hu z (S.fx.sub _ _ Ia) S.inv rfl hn (fun h' t D' k' F' ok' => q h' t ⟨F', S.out, ok', D', fun h h' kw x => x.at fun o e => kw d o rfl e⟩) hs

theorem s_setnew {env : Env} {m : List (Str × V)} {C a d : Addr} {xs : List Str} {n : Nat} {fs : List (Str × V)} {A : Around} {s : Shared} {x : Str} {value o : Expr} {u : V} {p1 pos : Pos} {rest : List Stmt} {Q : Flow → Shared → Prop} {E : Value → Shared → Prop} (hA : Lv k A)
    (S : St β (· = d) (fun h => Ds h d n fs) env s.heap m) (X : K.In β) (Y : Kc K C xs) (Ia : β.get? a = some (instObj C d)) (hx : x ∈ xs) (hn : n ≤ 900)
    (y : Ev prog w k env s.heap value u) (hu : ∀ g c b, u ≠ .tri g c b) (z : Ev prog w k env s.heap o (.ref a))
    (q : ∀ h' t, St β (· = d) (fun h => Ds h d (n + 1) (put fs x u)) env h' m → wpAny (model prog w) A (execs rest env) Q E { s with heap := h', toks := t })
    (hs : swapsWith value (some (.Attribute o x p1)) pos.line env = pure false := by rfl) :
    wpAny (model prog w) A (execs (.Assign [.Attribute o x p1] value pos :: rest) env) Q E s :=
  s_setself hA S X Y Ia hx hn y hu z (fun h' t S' => q h' t (S'.imp (S'.inv.le (by split <;> omega)) fun h h' kw x => x.at fun o e => kw d o rfl e)) hs
theorem s_setold {env : Env} {m : List (Str × V)} {C a d : Addr} {xs : List Str} {n : Nat} {fs : List (Str × V)} {A : Around} {s : Shared} {x : Str} {value o : Expr} {u : V} {p1 pos : Pos} {rest : List Stmt} {Q : Flow → Shared → Prop} {E : Value → Shared → Prop} (hA : Lv k A)
    (S : St β (· = d) (fun h => Ds h d n fs) env s.heap m) (X : K.In β) (Y : Kc K C xs) (Ia : β.get? a = some (instObj C d)) (hx : x ∈ xs) (hn : n ≤ 900)
    (y : Ev prog w k env s.heap value u) (hu : ∀ g c b, u ≠ .tri g c b) (z : Ev prog w k env s.heap o (.ref a))
    (q : ∀ h' t, St β (· = d) (fun h => Ds h d n (put fs x u)) env h' m → wpAny (model prog w) A (execs rest env) Q E { s with heap := h', toks := t })
    (hf : (get fs x).isSome = true := by rfl) (hs : swapsWith value (some (.Attribute o x p1)) pos.line env = pure false := by rfl) :
    wpAny (model prog w) A (execs (.Assign [.Attribute o x p1] value pos :: rest) env) Q E s :=
  s_setself hA S X Y Ia hx hn y hu z (fun h' t S' => q h' t (S'.imp (by have := S'.inv; rwa [if_pos hf] at this) fun h h' kw x => x.at fun o e => kw d o rfl e)) hs

theorem init_ok {A : Around} {s : Shared} {f x dx : Addr} {vals : List Value} {R : Result → Shared → Prop} {g c : Int} (T : Tx K mg CI CB β) (hA : Lv (k + 1) A) (D : Df K β (meth 2 0) f) (sub : Sub β s.heap)
    (hp : Paired (Rep s.heap) vals [.ref x, .int 0, .int g, .int c]) (Ia : s.heap.get? x = some (instObj CI dx)) (hx : β.get? x = none) (hd : β.get? dx = none) (Dd : Ds s.heap dx 0 [])
    (q : ∀ h' t, But (· = dx) s.heap h' → Ds h' dx 15 (infoF g c false) → R (.ok (.ret .none)) { s with heap := h', toks := t }) :
    codeAny (model prog w) A (.call (.ref f) ⟨vals, []⟩) R s := by
  have hne : x ≠ dx := fun e => by
    obtain ⟨o, eo, es, n, d⟩ := Dd.dict
    rw [← e, Ia] at eo; cases eo; cases d
  refine enterW (W := (· = dx)) (I := fun h => Ds h dx 0 []) hA T.bs sub (fun b hb => hb ▸ hd) (fun b hb => hb ▸ (let ⟨o, e, r⟩ := Dd.dict; ⟨o, e, .inl r⟩)) D hp rfl Dd (fun h h' kw x => x.at fun o e => kw dx o rfl e)
    fun qual cd L h1 t1 β1 E sb up dn low fL kw S hA' => ?_
  have X := T.sub sb
  have I1 : β1.get? x = some (instObj CI dx) := up _ _ hne Ia
  have nt : ∀ {u : V}, (∀ g c b, u ≠ .tri g c b) → ∀ g c b, u ≠ .tri g c b := fun h => h
  refine s_setnew hA' S X.kin X.info.2.2.1 I1 (by decide) (by decide) (nl S.fx) (fun _ _ _ q => by cases q) (nl S.fx) fun h t S => ?_
  refine s_setnew (s := { s with heap := h, toks := t }) hA' S X.kin X.info.2.2.1 I1 (by decide) (by decide) (nl S.fx) (fun _ _ _ q => by cases q) (nl S.fx) fun h t S => ?_
  refine s_setnew (s := { s with heap := h, toks := t }) hA' S X.kin X.info.2.2.1 I1 (by decide) (by decide) (nl S.fx) (fun _ _ _ q => by cases q) (nl S.fx) fun h t S => ?_
  refine s_setnew (s := { s with heap := h, toks := t }) hA' S X.kin X.info.2.2.1 I1 (by decide) (by decide) Ev.int (fun _ _ _ q => by cases q) (nl S.fx) fun h t S => ?_
  refine s_setnew (s := { s with heap := h, toks := t }) hA' S X.kin X.info.2.2.1 I1 (by decide) (by decide) Ev.bool (fun _ _ _ q => by cases q) (nl S.fx) fun h t S => ?_
  refine s_setnew (s := { s with heap := h, toks := t }) hA' S X.kin X.info.2.2.1 I1 (by decide) (by decide) Ev.int (fun _ _ _ q => by cases q) (nl S.fx) fun h t S => ?_
  refine s_setnew (s := { s with heap := h, toks := t }) hA' S X.kin X.info.2.2.1 I1 (by decide) (by decide) Ev.int (fun _ _ _ q => by cases q) (nl S.fx) fun h t S => ?_
  refine s_setnew (s := { s with heap := h, toks := t }) hA' S X.kin X.info.2.2.1 I1 (by decide) (by decide) Ev.int (fun _ _ _ q => by cases q) (nl S.fx) fun h t S => ?_
  refine s_setnew (s := { s with heap := h, toks := t }) hA' S X.kin X.info.2.2.1 I1 (by decide) (by decide) Ev.str (fun _ _ _ q => by cases q) (nl S.fx) fun h t S => ?_
  refine s_setnew (s := { s with heap := h, toks := t }) hA' S X.kin X.info.2.2.1 I1 (by decide) (by decide) Ev.int (fun _ _ _ q => by cases q) (nl S.fx) fun h t S => ?_
  refine s_setnew (s := { s with heap := h, toks := t }) hA' S X.kin X.info.2.2.1 I1 (by decide) (by decide) Ev.int (fun _ _ _ q => by cases q) (nl S.fx) fun h t S => ?_
  refine s_setnew (s := { s with heap := h, toks := t }) hA' S X.kin X.info.2.2.1 I1 (by decide) (by decide) Ev.int (fun _ _ _ q => by cases q) (nl S.fx) fun h t S => ?_
  refine s_setnew (s := { s with heap := h, toks := t }) hA' S X.kin X.info.2.2.1 I1 (by decide) (by decide) Ev.int (fun _ _ _ q => by cases q) (nl S.fx) fun h t S => ?_
  refine s_setnew (s := { s with heap := h, toks := t }) hA' S X.kin X.info.2.2.1 I1 (by decide) (by decide) Ev.int (fun _ _ _ q => by cases q) (nl S.fx) fun h t S => ?_
  refine s_setnew (s := { s with heap := h, toks := t }) hA' S X.kin X.info.2.2.1 I1 (by decide) (by decide) Ev.str (fun _ _ _ q => by cases q) (nl S.fx) fun h t S => ?_
  refine x_nil (q h t (dn h S.fx.sub) ?_)
  exact S.inv

theorem Lv.le1 {A : Around} {k : Nat} (x : Lv (k + 1) A) : Lv k A := x.le (Nat.le_succ k)
/-- what a new info is -/
def NewInfo (CI : Addr) (g c : Int) (u : Bool) (v : Value) (h₀ h' : Heap) : Prop := ∃ x dx, v = .ref x ∧ h₀.get? x = none ∧ h₀.get? dx = none ∧ h'.get? x = some (instObj CI dx) ∧ Ds h' dx 15 (infoF g c u)

theorem NewInfo.ref {CI : Addr} {g c : Int} {u : Bool} {v : Value} {h₀ h' : Heap} (n : NewInfo CI g c u v h₀ h') : ∃ a, v = .ref a ∧ NewInfo CI g c u (.ref a) h₀ h' := by
  obtain ⟨x, dx, rfl, r⟩ := n
  exact ⟨x, rfl, x, dx, rfl, r⟩
/-- Info(0, g, c) -/
theorem c_info {A : Around} {s : Shared} {vs : List Value} {R : Result → Shared → Prop} {g c : Int} {ml : Str → Option Value} {L : Addr} (T : Tx K mg CI CB β) (hA : Lv (k + 2) A) (sub : Sub β s.heap) (hn : s.heap.Ns L ml) (hL : β.get? L = none) (hp : Paired (Rep s.heap) vs [.int 0, .int g, .int c])
    (q : ∀ v h' t, Gw L s.heap h' → NewInfo CI g c false v s.heap h' → R (.ok (.ret v)) { s with heap := h', toks := t }) :
    codeAny (model prog w) A (.call (.ref CI) ⟨vs, []⟩) R s := by
  obtain ⟨gI, kI, YI, fI, M, DI⟩ := T.info
  refine make_at hA (T.kin.keeps sub) M hn fun x dx h' A' hA' fx fd gw eI D0 => ?_
  have hβ : ∀ b, s.heap.get? b = none → β.get? b = none := fun b q => by
    cases q' : β.get? b with
    | none => rfl
    | some o => have := sub b o q'; rw [q] at this; cases this
  have hsub : Sub β h' := fun b o e => gw.keep b o (fun hb => by rw [hb, hL] at e; cases e) (sub b o e)
  refine init_ok (s := { s with heap := h' }) T hA' DI hsub (.cons rfl (paired_mono (fun _ _ => gw.rep) hp)) eI (hβ x fx) (hβ dx fd) D0 fun h2 t2 b2 D2 => ?_
  have hne : x ≠ dx := fun e => by
    obtain ⟨o, eo, es, n, d⟩ := D0.dict
    rw [← e, eI] at eo; cases eo; cases d
  exact ⟨rfl, q (.ref x) h2 t2 (Gw.iter .refl gw fd b2) ⟨x, dx, rfl, fx, fd, b2 x _ hne eI, D2⟩⟩
theorem Gr.info {env : Env} {h : Heap} {m : List (Str × V)} {p pos : Pos} {e1 e2 e3 : Expr} {g c : Int} (T : Tx K mg CI CB β) (F : Fx β env h m) (hx : env.kindOf "Info" = some .globalImplicit) (y : Ar prog w (k + 2) env h [e1, e2, e3] [.int 0, .int g, .int c])
    (he : starEach [e1, e2, e3] env = (false, eval e1 env) :: starEach [e2, e3] env := by rfl) (hplain : (backTo pos (starEach [e2, e3] env)).any (·.1) = false := by rfl) :
    Gr prog w (k + 2) env h (.Call (.Name "Info" p) [e1, e2, e3] [] pos) (NewInfo CI g c false) :=
  fun A hA s g Q E q => e_call hA (F.gw g) T.bs T.kin hx T.info.1 T.info.2.1 (y.gw g) (fun vs h' t g' pp => by
    have F' := F.gw (g.trans g')
    obtain ⟨ml, n1, -⟩ := F'.ns
    refine c_info (s := { s with heap := h', toks := t }) T hA F'.sub n1 F'.newL pp fun v h2 t2 g2 ⟨x, dx, e, f1, f2, r⟩ => q v h2 t2 (g'.trans g2) ⟨x, dx, e, g'.fresh f1, g'.fresh f2, r⟩) he hplain

theorem copied_ok {A : Around} {s : Shared} {f a d : Addr} {vals : List Value} {R : Result → Shared → Prop} {g c : Int} {u : Bool} (T : Tx K mg CI CB s.heap) (hA : Lv (k + 3) A) (D : Df K s.heap (meth 2 1) f)
    (hp : Paired (Rep s.heap) vals [.ref a]) (Ia : s.heap.get? a = some (instObj CI d)) (Dd : Ds s.heap d 15 (infoF g c u))
    (q : ∀ v h' t, Sub s.heap h' → NewInfo CI g c u v s.heap h' → R (.ok (.ret v)) { s with heap := h', toks := t }) :
    codeAny (model prog w) A (.call (.ref f) ⟨vals, []⟩) R s := by
  refine enterW (W := no) (I := fun _ => True) hA T.bs Sub.refl (fun b hb => hb.elim) wok_no D hp rfl trivial (fun _ _ _ x => x) fun qual cd L h1 t1 β1 E sb up' dn low fL kw S hA' => ?_
  have X := T.sub sb
  have oL : ∀ {h m}, Fx β1 (dEnv (meth 2 1) qual cd L f) h m → d ≠ (dEnv (meth 2 1) qual cd L f).locals := fun F e => by
    obtain ⟨o, eo, _⟩ := Dd.dict
    exact F.notOwnβ (sb _ _ eo) (.inl e.symm.symm)
  have fs : ∀ {x : Str} {pos pos' : Pos} {v : V} {h m}, Fx β1 (dEnv (meth 2 1) qual cd L f) h m → get m "self" = some (.ref a) → get (infoF g c u) x = some v → x ∈ infoN → Ev prog w (k + 2) (dEnv (meth 2 1) qual cd L f) h (.Attribute (.Name "self" pos) x pos') v :=
    fun F hm hv hx => Ev.inf X F (nl F hm) (F.sub _ _ (sb _ _ Ia)) (Dd.at fun o e => F.sub _ _ (sb _ _ e)) (oL F) hv hx
  refine x_assignN hA' S.fx (.inl (by rfl)) (P := NewInfo CI g c false) ((Gr.info X S.fx (by rfl) (Ar.cons (fs S.fx (by rfl) (by rfl) (by decide)) (Ar.cons (fs S.fx (by rfl) (by rfl) (by decide)) (Ar.cons (fs S.fx (by rfl) (by rfl) (by decide)) Ar.nil)))).mono fun v h₀ h' r => r.ref) fun x h2 h3 t3 g2 ⟨x', dx, ex, f1, f2, eI, D2⟩ F2 F3 k3 => ?_
  cases ex
  have S3 := (S.gw g2).kp F3 k3
  have nO : ∀ b, h1.get? b = none → ¬ Own (dEnv (meth 2 1) qual cd L f) b := fun b e => (S.fresh e).1
  have eI3 := k3 x _ (nO x f1) (fun q => q) eI
  have D3 : Ds h3 dx 15 (infoF g c false) := D2.at fun o e => k3 dx o (nO dx f2) (fun q => q) e
  obtain ⟨od, eod, kod⟩ := D3.dict
  have hβx : β1.get? x = none := by
    cases q' : β1.get? x with
    | none => rfl
    | some o => have := S.fx.sub x o q'; rw [f1] at this; cases this
  have hβ : β1.get? dx = none := by
    cases q' : β1.get? dx with
    | none => rfl
    | some o => have := S.fx.sub dx o q'; rw [f2] at this; cases this
  obtain ⟨β2, sb2, S4, a2⟩ := (S3.more (l := dx) (I' := fun h => Ds h dx 15 (infoF g c false)) (nO dx f2) hβ eod (.inl kod) D3 fun h h' kw x => x.at fun o e => kw dx o (.inr rfl) e).rebase
  have hne : x ≠ dx := fun e => by rw [e] at eI3; rw [eI3] at eod; cases eod; obtain ⟨_, _, q⟩ := kod; cases q
  have I4 : β2.get? x = some (instObj CI dx) := a2 x _ (nO x f1) (fun q => q.elim id hne) eI3
  have S5 : St β2 (· = dx) (fun h => Ds h dx 15 (infoF g c false)) (dEnv (meth 2 1) qual cd L f) h3 _ := ⟨S4.fx, fun b hb => S4.out b (.inr hb), fun b hb => S4.ok b (.inr hb), S4.inv, fun h h' kw x => x.at fun o e => kw dx o rfl e⟩
  have X2 := X.sub sb2
  have fs2 : ∀ {x : Str} {pos pos' : Pos} {v : V} {h m}, Fx β2 (dEnv (meth 2 1) qual cd L f) h m → get m "self" = some (.ref a) → get (infoF g c u) x = some v → x ∈ infoN → Ev prog w (k + 2) (dEnv (meth 2 1) qual cd L f) h (.Attribute (.Name "self" pos) x pos') v :=
    fun F hm hv hx => fs (F.lower sb2) hm hv hx
  refine s_setold (s := { s with heap := h3, toks := t3 }) hA' S5 X2.kin X2.info.2.2.1 I4 (by decide) (by decide) (fs2 S5.fx (by rfl) (by rfl) (by decide)) (fun _ _ _ q => by cases q) (nl S5.fx) fun h t S => ?_
  refine s_setold (s := { s with heap := h, toks := t }) hA' S X2.kin X2.info.2.2.1 I4 (by decide) (by decide) (fs2 S.fx (by rfl) (by rfl) (by decide)) (fun _ _ _ q => by cases q) (nl S.fx) fun h t S => ?_
  refine s_setold (s := { s with heap := h, toks := t }) hA' S X2.kin X2.info.2.2.1 I4 (by decide) (by decide) (fs2 S.fx (by rfl) (by rfl) (by decide)) (fun _ _ _ q => by cases q) (nl S.fx) fun h t S => ?_
  refine s_setold (s := { s with heap := h, toks := t }) hA' S X2.kin X2.info.2.2.1 I4 (by decide) (by decide) (fs2 S.fx (by rfl) (by rfl) (by decide)) (fun _ _ _ q => by cases q) (nl S.fx) fun h t S => ?_
  refine s_setold (s := { s with heap := h, toks := t }) hA' S X2.kin X2.info.2.2.1 I4 (by decide) (by decide) (fs2 S.fx (by rfl) (by rfl) (by decide)) (fun _ _ _ q => by cases q) (nl S.fx) fun h t S => ?_
  refine s_setold (s := { s with heap := h, toks := t }) hA' S X2.kin X2.info.2.2.1 I4 (by decide) (by decide) (fs2 S.fx (by rfl) (by rfl) (by decide)) (fun _ _ _ q => by cases q) (nl S.fx) fun h t S => ?_
  refine s_setold (s := { s with heap := h, toks := t }) hA' S X2.kin X2.info.2.2.1 I4 (by decide) (by decide) (fs2 S.fx (by rfl) (by rfl) (by decide)) (fun _ _ _ q => by cases q) (nl S.fx) fun h t S => ?_
  refine s_setold (s := { s with heap := h, toks := t }) hA' S X2.kin X2.info.2.2.1 I4 (by decide) (by decide) (fs2 S.fx (by rfl) (by rfl) (by decide)) (fun _ _ _ q => by cases q) (nl S.fx) fun h t S => ?_
  refine s_setold (s := { s with heap := h, toks := t }) hA' S X2.kin X2.info.2.2.1 I4 (by decide) (by decide) (fs2 S.fx (by rfl) (by rfl) (by decide)) (fun _ _ _ q => by cases q) (nl S.fx) fun h t S => ?_
  refine s_setold (s := { s with heap := h, toks := t }) hA' S X2.kin X2.info.2.2.1 I4 (by decide) (by decide) (fs2 S.fx (by rfl) (by rfl) (by decide)) (fun _ _ _ q => by cases q) (nl S.fx) fun h t S => ?_
  refine s_setold (s := { s with heap := h, toks := t }) hA' S X2.kin X2.info.2.2.1 I4 (by decide) (by decide) (fs2 S.fx (by rfl) (by rfl) (by decide)) (fun _ _ _ q => by cases q) (nl S.fx) fun h t S => ?_
  refine s_setold (s := { s with heap := h, toks := t }) hA' S X2.kin X2.info.2.2.1 I4 (by decide) (by decide) (fs2 S.fx (by rfl) (by rfl) (by decide)) (fun _ _ _ q => by cases q) (nl S.fx) fun h t S => ?_
  refine x_ret (s := { s with heap := h, toks := t }) hA' (nl S.fx) fun v h' t' g' r => ?_
  cases r
  refine q (.ref x) h' t' (fun b o e => dn h' (fun b o e => (S.fx.gw g').sub b o (sb2 b o e)) b o (fun q => q) e) ⟨x, dx, rfl, ?_, ?_, (S.fx.gw g').sub _ _ I4, (S.gw g').inv⟩
  · cases q' : s.heap.get? x with
    | none => rfl
    | some o => rw [sb x o q'] at hβx; cases hβx
  · cases q' : s.heap.get? dx with
    | none => rfl
    | some o => rw [sb dx o q'] at hβ; cases hβ

/-- o.copied() -/
theorem Gr.copied {env : Env} {h : Heap} {m : List (Str × V)} {o : Expr} {apos pos : Pos} {a d : Addr} {g c : Int} {u : Bool} (T : Tx K mg CI CB β) (F : Fx β env h m) (z : Ev prog w (k + 3) env h o (.ref a)) (Ia : h.get? a = some (instObj CI d)) (D : Ds h d 15 (infoF g c u)) (hL : d ≠ env.locals)
    (hbase : attributeBase o "copied" env (eval o env) = eval o env := by rfl) (hline : (apos.endLine == pos.line) = true := by rfl) :
    Gr prog w (k + 3) env h (.Call (.Attribute o "copied" apos) [] [] pos) (NewInfo CI g c u) :=
  fun A hA s gw Q E q => by
    obtain ⟨pg, f, ff, fn, df⟩ := T.copied
    refine e_meth0 hA (F.gw gw) T.kin pg ff fn df.1 (Gr.gw z gw) (gw.obj (notDict_plain rfl) Ia) (D.at fun o e => gw.keep _ o hL e) (by rfl) hL (fun h' t g' => ?_) hbase hline
    have F' := F.gw (gw.trans g')
    refine copied_ok (s := { s with heap := h', toks := t }) (T.sub F'.sub) hA (df.sub F'.sub) (.cons rfl .nil) ((gw.trans g').obj (notDict_plain rfl) Ia) (D.at fun o e => (gw.trans g').keep _ o hL e) fun v h2 t2 s2 ⟨x, dx, e, f1, f2, r⟩ => q v h2 t2 (g'.trans (.ofSub s2)) ⟨x, dx, e, g'.fresh f1, g'.fresh f2, r⟩
end
end Mine

set_option Elab.async false
set_option maxRecDepth 100000
set_option linter.unusedVariables false
set_option autoImplicit false
namespace Mine
open PySem PySem.W PyProof.Rows PySem.Calls PySem.SeqAt

def news (gs : List Int) (r : Tri) : List Tri := gs.map fun g => (g, r.2.1, r.2.2)
def putP (rw : List Tri) (a n : Nat) (gs : List Int) : List Tri :=
  if gs = [] then (dropP ((mergeP rw a (a + n)).take (a + 1) ++ (mergeP rw a (a + n)).drop (a + n)) a).take a ++ (dropP ((mergeP rw a (a + n)).take (a + 1) ++ (mergeP rw a (a + n)).drop (a + n)) a).drop (a + 1)
  else (mergeP rw a (a + n)).take a ++ news gs ((mergeP rw a (a + n)).getD a default) ++ (mergeP rw a (a + n)).drop (a + n)
def Wb (l : Addr) (as : List (Addr × Addr)) (b : Addr) : Prop := b = l ∨ Wd as b
theorem But.mono {P P' : Addr → Prop} {h h' : Heap} (b : But P h h') (k : ∀ x, P x → P' x) : But P' h h' := fun x o hx e => b x o (fun q => hx (k x q)) e
theorem But.trans {P : Addr → Prop} {h h' h'' : Heap} (a : But P h h') (b : But P h' h'') : But P h h'' := fun x o hx e => b x o hx (a x o hx e)
theorem lst_wok {h : Heap} {l : Addr} {us : List V} (x : Lst h l us) : ∃ o, h.get? l = some o ∧ ((∃ es n, o.data = .dict es n) ∨ (o.cls = .type "list" ∧ ∃ xs n, o.data = .seq xs n)) := let ⟨vs, n, e, _⟩ := x; ⟨_, e, .inr ⟨rfl, _, _, rfl⟩⟩
theorem wb_wok {CI : Addr} {h : Heap} {l : Addr} {as : List (Addr × Addr)} {rw : List Tri} (x : Lst h l (refs as)) (y : Rw CI h as rw) : Wok (Wb l as) h := fun b hb => hb.elim (fun e => e ▸ lst_wok x) (y.wok b)
theorem Rw.gap {CI : Addr} {h : Heap} {as : List (Addr × Addr)} {rw : List Tri} (x : Rw CI h as rw) {i j : Nat} (hij : i ≤ j) : Rw CI h (as.take i ++ as.drop j) (rw.take i ++ rw.drop j) := by
  have hs : (as.take i ++ as.drop j).Sublist as := by
    have : (as.drop j).Sublist (as.drop i) := by
      rw [show j = i + (j - i) by omega, ← List.drop_drop]
      exact List.drop_sublist _ _
    exact (List.Sublist.append_left this (as.take i)).trans (by rw [List.take_append_drop]; exact List.Sublist.refl _)
  exact ⟨fun p hp => x.inst p (hs.subset hp), paired_append (paired_take x.flds i) (paired_drop x.flds j), (hs.map _).nodup x.nd⟩
theorem Rw.splice {CI : Addr} {h : Heap} {as nas : List (Addr × Addr)} {rw rs : List Tri} (x : Rw CI h as rw) (y : Rw CI h nas rs) (hd : ∀ p ∈ as, ∀ q ∈ nas, p.2 ≠ q.2) {i j : Nat} (hij : i ≤ j) : Rw CI h (as.take i ++ nas ++ as.drop j) (rw.take i ++ rs ++ rw.drop j) := by
  have g := x.gap hij
  have nd := g.nd
  rw [List.map_append, List.nodup_append] at nd
  refine ⟨fun p hp => ?_, paired_append (paired_append (paired_take x.flds i) y.flds) (paired_drop x.flds j), ?_⟩
  · rcases List.mem_append.mp hp with hp | hp
    · rcases List.mem_append.mp hp with hp | hp
      · exact x.inst p (List.mem_of_mem_take hp)
      · exact y.inst p hp
    · exact x.inst p (List.mem_of_mem_drop hp)
  · rw [List.append_assoc, List.map_append, List.map_append, List.nodup_append, List.nodup_append]
    refine ⟨nd.1, ⟨y.nd, nd.2.1, fun b hb c hc e => ?_⟩, fun b hb c hc e => ?_⟩
    · obtain ⟨p, hp, rfl⟩ := List.mem_map.mp hb
      obtain ⟨q, hq, rfl⟩ := List.mem_map.mp hc
      exact hd q (List.mem_of_mem_drop hq) p hp e.symm
    · rcases List.mem_append.mp hc with hc | hc
      · obtain ⟨p, hp, rfl⟩ := List.mem_map.mp hb
        obtain ⟨q, hq, rfl⟩ := List.mem_map.mp hc
        exact hd p (List.mem_of_mem_take hp) q hq e
      · exact nd.2.2 b hb c hc e
theorem refs_append {as bs : List (Addr × Addr)} : refs (as ++ bs) = refs as ++ refs bs := by simp [refs]
theorem refs_take {as : List (Addr × Addr)} {n : Nat} : (refs as).take n = refs (as.take n) := by simp [refs, List.map_take]
theorem refs_drop {as : List (Addr × Addr)} {n : Nat} : (refs as).drop n = refs (as.drop n) := by simp [refs, List.map_drop]
theorem mergeP_length {rw : List Tri} {i j : Nat} : (mergeP rw i j).length = rw.length := by unfold mergeP; split <;> simp [sr_length]
theorem dl_length {c b : Int} : ∀ {n : Nat} {rw : List Tri}, (dl c b rw n).length = rw.length
  | 0, _ => rfl
  | n + 1, rw => by simp only [dl]; split; rw [dl_length, List.length_set]; rfl
theorem dropP_length {rw : List Tri} {a : Nat} : (dropP rw a).length = rw.length := by
  unfold dropP
  split
  · rfl
  · split
    · exact dl_length
    · exact mergeP_length
theorem no_get {β h : Heap} {b : Addr} (s : Sub β h) (e : h.get? b = none) : β.get? b = none := by
  cases q : β.get? b with
  | none => rfl
  | some o => have := s b o q; rw [e] at this; cases this

section
variable {prog : Program} {w : World} {k : Nat} {K : Frag} {mg : Str → Option Value} {CI CB : Addr} {β : Heap}

theorem Ar.run {env : Env} {A : Around} {s : Shared} {es : List Expr} {us : List V} {pos : Pos} {Q : List Value → Shared → Prop} {E : Value → Shared → Prop} (hA : Lv k A) (x : Ar prog w k env s.heap es us) (q : ∀ vs h' t, Gw env.locals s.heap h' → Paired (Rep h') vs us → Q vs { s with heap := h', toks := t }) :
    wpAny (model prog w) A (spliced (backTo pos (starEach es env))) Q E s := x A hA s .refl pos Q E q

theorem put_ok {A : Around} {s : Shared} {f b l gl : Addr} {bb : Bool} {vals : List Value} {R : Result → Shared → Prop} {as : List (Addr × Addr)} {rw : List Tri} {a n : Nat} {gs : List Int} (T : Tx K mg CI CB β) (hA : Lv (k + 4) A) (D : Df K β (top 10) f) (sub : Sub β s.heap)
    (hp : Paired (Rep s.heap) vals [.ref b, .int a, .int n, .ref gl]) (Bb : Bo CB β b l bb) (xl : Lst s.heap l (refs as)) (xr : Rw CI s.heap as rw) (xg : Lst β gl (gs.map V.int)) (wβ : ∀ p ∈ as, β.get? p.2 = none) (wl : β.get? l = none) (hn : 1 ≤ n) (han : a + n ≤ rw.length) (hz : rw.length ≤ 900) (hg : gs.length ≤ 10)
    (q : ∀ h' t as', But (Wb l as) s.heap h' → Lst h' l (refs as') → Rw CI h' as' (putP rw a n gs) → (∀ p ∈ as', p ∈ as ∨ (s.heap.get? p.1 = none ∧ s.heap.get? p.2 = none)) → R (.ok (.ret .none)) { s with heap := h', toks := t }) :
    codeAny (model prog w) A (.call (.ref f) ⟨vals, []⟩) R s := by
  have nWl : ¬ Wd as l := rw_list xr xl
  have nWi : ∀ p ∈ as, ¬ Wb l as p.1 := fun p hp hb => hb.elim (fun e => by
    obtain ⟨vs, n, el, _⟩ := xl
    rw [← e, xr.inst p hp] at el; cases el) (rw_inst xr p hp)
  refine enterW (W := Wb l as) (I := KW (Wb l as) s.heap) hA T.bs sub (fun b hb => hb.elim (fun e => e ▸ wl) fun ⟨p, hp, e⟩ => e ▸ wβ p hp) (wb_wok xl xr) D hp rfl .refl (fun _ _ a b => b.trans a) fun qual cd L h1 t1 β1 E sb up' dn low fL kw S hA' => ?_
  have X := T.sub sb
  have ia : ∀ p ∈ as, β1.get? p.1 = some (instObj CI p.2) := fun p hp => up' _ _ (nWi p hp) (xr.inst p hp)
  have oW : ∀ b, Wb l as b → ¬ Own (dEnv (top 10) qual cd L f) b := fun b hb => (S.out b hb).1
  have oL : ∀ p ∈ as, p.2 ≠ (dEnv (top 10) qual cd L f).locals := fun p hp e => oW _ (.inr ⟨p, hp, rfl⟩) (.inl e)
  have lL : l ≠ (dEnv (top 10) qual cd L f).locals := fun e => oW _ (.inl rfl) (.inl e)
  obtain ⟨fm, gm, dm⟩ := X.fn 7 (by decide)
  refine s_expr (e_call hA' S.fx X.bs X.kin (by rfl) gm dm.1 (Ar.cons (u := .ref b) (nl S.fx) (Ar.cons (u := .int a) (nl S.fx) (Ar.cons (u := .int (a + n : Nat)) (Ev.cast (Ev.add (nl S.fx) (nl S.fx)) (by omega)) Ar.nil))) fun vs h2 t2 g2 pp => ?_)
  have S2 := S.gw g2
  have xl2 : Lst h2 l (refs as) := lst_refs xl fun o e => S2.inv l o (.inl rfl) e
  have xr2 : Rw CI h2 as rw := xr.kw (fun p hp => S2.fx.sub _ _ (ia p hp)) fun b o hb e => S2.inv b o (.inr hb) e
  refine merge_ok (s := { s with heap := h2, toks := t2 }) (k := k + 1) X hA' dm S2.fx.sub pp (Bb.sub sb) xl2 xr2 (fun p hp => (S.out _ (.inr ⟨p, hp, rfl⟩)).2) (by omega) han (by omega) fun h3 t3 b3 xr3 => ?_
  generalize hr1 : mergeP rw a (a + n) = r1 at xr3
  have hlr : r1.length = rw.length := hr1 ▸ mergeP_length
  have xl3 : Lst h3 l (refs as) := lst_refs xl2 fun o e => b3 l o nWl e
  have S3 : St β1 (Wb l as) (KW (Wb l as) h3) (dEnv (top 10) qual cd L f) h3 _ := S2.eff (b3.mono fun _ => .inr) (wb_wok xl3 xr3) .refl fun _ _ a b => b.trans a
  obtain ⟨p, hpa, hpm, Ip, Dp⟩ := xr3.at (i := a) (by omega)
  refine s_assign (s := { s with heap := h3, toks := t3 }) (u := .ref p.1) hA' S3 (.inl (by rfl)) (Ev.rowAt (l := 0) (j := (a : Int)) (Ev.a (Ev.bufRow X S3.fx (nl S3.fx) (Bb.sub sb)) xl3) (nl S3.fx) (by omega) (by rw [xr.len]; omega) (by rw [show (a : Int).toNat = a by omega]; exact hpa)) fun h4 t4 S4 => ?_
  refine s_assignM (s := { s with heap := h4, toks := t4 }) hA' S4 (.inl (by rfl)) (EvL.disp Ar.nil (by decide)) fun fl h5 t5 S5 xf5 nfl => ?_
  let m0 : List (Str × V) := [("buffer", .ref b), ("at", .int a), ("count", .int n), ("glyphs", .ref gl), ("first", .ref p.1), ("found", .ref fl)]
  let W' : Addr → Prop := fun b => Wb l as b ∨ b = fl
  have S45 : KW (Wb l as) h3 h5 := S5.inv.1
  have S5 : St β1 W' (KW W' h5) (dEnv (top 10) qual cd L f) h5 m0 := S5.imp .refl fun _ _ a b => b.trans a
  have xl5 : Lst h5 l (refs as) := lst_refs xl3 fun o e => S45 l o (.inl rfl) e
  have xr5 : Rw CI h5 as r1 := xr3.kw (fun p hp => S5.fx.sub _ _ (ia p hp)) fun b o hb e => S45 b o (.inr hb) e
  have xg1 := lst_sub sb xg
  generalize hr : r1.getD a default = r at Dp
  refine s_for (s := { s with heap := h5, toks := t5 }) hA' S5 (Src.list (Ev.aW (nl S5.fx) (lst_sub S5.fx.sub xg1) (lst_notW S5 xg1)) Tgt.name) (fun i m => put m "glyph" ((gs.map V.int).getD i .none)) (fun A hA i u hu => ?_)
    (fun i h m1 => m1 = m0 ∧ Lst h l (refs as) ∧ Rw CI h as r1 ∧ ∃ nas : List (Addr × Addr), nas.length = i ∧ Lst h fl (refs nas) ∧ Rw CI h nas (news (gs.take i) r) ∧ ∀ p ∈ nas, ¬ Own (dEnv (top 10) qual cd L f) p.2 ∧ ¬ W' p.2 ∧ ¬ W' p.1 ∧ s.heap.get? p.1 = none ∧ s.heap.get? p.2 = none)
    (fun h' g => ?_) (fun i h7 h8 m1 F7 ok7 kf kw hj => ?_) ?_ ?_
  · rw [show (gs.map V.int).getD i .none = u by rw [List.getD_eq_getElem?_getD, hu]; rfl]
    exact TkL.name (by rfl)
  · have kw6 := (S5.gw g).inv
    exact ⟨rfl, lst_refs xl5 fun o e => kw6 l o (.inl (.inl rfl)) e, xr5.kw (fun p hp => (S5.gw g).fx.sub _ _ (ia p hp)) fun b o hb e => kw6 b o (.inl (.inr hb)) e, [], rfl, lst_refs (as := []) xf5 fun o e => kw6 fl o (.inr rfl) e, ⟨(fun p hp => by cases hp), .nil, .nil⟩, (fun p hp => by cases hp)⟩
  · obtain ⟨em, a1, a2, nas, n1, n2, n3, n4⟩ := hj
    have ki : ∀ {bs : List (Addr × Addr)} {rs : List Tri}, Rw CI h7 bs rs → ∀ p ∈ bs, h8.get? p.1 = some (instObj CI p.2) := fun R p hp => kf _ _ (F7.notOwn (R.inst p hp) (fun _ _ q => by cases q) (fun _ q => by cases q)) (fun _ q => by cases q) (R.inst p hp)
    refine ⟨em, lst_refs a1 fun o e => kw l o (.inl (.inl rfl)) e, a2.kw (ki a2) fun b o hb e => kw b o (.inl (.inr hb)) e, nas, n1, lst_refs n2 fun o e => kw fl o (.inr rfl) e, n3.keep (fun p hp o e => by have := n3.inst p hp; rw [e] at this; cases this; exact ki n3 p hp) (fun p hp o e => kf _ _ (n4 p hp).1 (fun xs q => ?_) e), n4⟩
    obtain ⟨o', eo, es, n, d⟩ := n3.alive hp
    rw [e] at eo; cases eo; rw [q] at d; cases d
  · rintro i h7 t7 _ β2 E' hi sb2 all2 S7 ⟨rfl, a1, a2, nas, n1, n2, n3, n4⟩
    rw [List.length_map] at hi
    have X2 := X.sub sb2
    have eg : gs[i]? = some gs[i] := List.getElem?_eq_getElem hi
    have eu : (gs.map V.int).getD i .none = .int gs[i] := by rw [List.getD_eq_getElem?_getD, List.getElem?_map, eg]; rfl
    generalize gs[i] = gi at eg eu
    rw [eu] at S7
    obtain ⟨p', hp', -, Ia7, D7⟩ := a2.at (i := a) (by omega)
    rw [hpa] at hp'
    cases hp'
    have hr' : cl r1 a = r.2.1 := by rw [← hr]; rfl
    rw [hr, hr'] at D7
    refine x_assignN (s := { s with heap := h7, toks := t7 }) (P := NewInfo CI r.1 r.2.1 r.2.2) hA' S7.fx (.inl (by rfl)) ((Gr.copied X2 S7.fx (nl S7.fx) Ia7 D7 (oL p hpm)).mono fun v h₀ h' r => r.ref) fun x h8 h9 t9 g8 hnew F8 F9 k9 => ?_
    obtain ⟨x', dx, ex, f1, f2, eI, D8⟩ := hnew
    cases ex
    have S9 := (S7.gw g8).kp F9 k9
    obtain ⟨nOx, nWx⟩ := S7.fresh f1
    obtain ⟨nOd, nWd⟩ := S7.fresh f2
    have eI9 := k9 x _ nOx (fun q => q) eI
    have D9 : Ds h9 dx 15 (infoF r.1 r.2.1 r.2.2) := D8.at fun o e => k9 dx o nOd (fun q => q) e
    obtain ⟨od, eod, kod⟩ := D9.dict
    have hne : x ≠ dx := fun e => by rw [e] at eI9; rw [eI9] at eod; cases eod; obtain ⟨_, _, q⟩ := kod; cases q
    have S10 := S9.more (l := dx) (I' := KW (fun b => W' b ∨ b = dx) h9) nOd (no_get S7.fx.sub f2) eod (.inl kod) .refl fun _ _ a b => b.trans a
    refine s_setattr (s := { s with heap := h9, toks := t9 }) hA' S10 X2.kin X2.info.2.2.1 (x := "glyph") (by decide) (nl S10.fx) (fun _ _ _ q => by cases q) (nl S10.fx) eI9 D9 (.inr rfl) (by decide) fun h11 t11 D11 k11 F11 ok11 => ?_
    have D11 : Ds h11 dx 15 (infoF gi r.2.1 r.2.2) := D11
    have S11 : St β2 (fun b => W' b ∨ b = dx) (KW (fun b => W' b ∨ b = dx) h11) (dEnv (top 10) qual cd L f) h11 _ := ⟨F11, S10.out, ok11, .refl, fun _ _ a b => b.trans a⟩
    have hfd : fl ≠ dx := fun e => nWd (.inr e.symm)
    have nOf : ¬ Own (dEnv (top 10) qual cd L f) fl := (S7.out fl (.inr rfl)).1
    have xf11 : Lst h11 fl (refs nas) := lst_refs n2 fun o e => k11 fl o hfd (fun q => nOf (.inl q)) (S9.inv fl o (.inr rfl) e)
    refine s_expr (s := { s with heap := h11, toks := t11 }) (e_lmeth hA' (nl S11.fx) xf11 PySem.F.slot_list_append PySem.F.type_list_append fun h12 t12 g12 => ?_)
    refine Ar.run (s := { s with heap := h12, toks := t12 }) hA' (Ar.cons (u := .ref x) (nl (S11.gw g12).fx) Ar.nil) fun vs h13 t13 g13 pp => ?_
    cases pp with
    | cons rx pp =>
      cases rx
      cases pp
      have g11 := g12.trans g13
      refine c_append (s := { s with heap := h13, toks := t13 }) (u := .ref x) (g11.lst xf11) rfl (by rw [refs_length, n1]; omega) fun h14 xf14 b14 => x_nil ?_
      obtain ⟨-, F14, ok14⟩ := S11.chg (.inl (.inr rfl)) g11 b14 _ xf14.isList
      have T1 : ∀ b o, ¬ Own (dEnv (top 10) qual cd L f) b → b ≠ fl → h11.get? b = some o → h14.get? b = some o := fun b o hO hf e => b14 b o hf (g11.keep b o (fun q => hO (.inl q)) e)
      have T9 : ∀ b o, ¬ Own (dEnv (top 10) qual cd L f) b → b ≠ fl → b ≠ dx → h9.get? b = some o → h14.get? b = some o := fun b o hO hf hd e => T1 b o hO hf (k11 b o hd (fun q => hO (.inl q)) e)
      have T0 : ∀ b o, ¬ Own (dEnv (top 10) qual cd L f) b → b ≠ fl → h7.get? b = some o → h14.get? b = some o := fun b o hO hf e => T9 b o hO hf (fresh_ne f2 e) (k9 b o hO (fun q => q) (g8.keep b o (fun q => hO (.inl q)) e))
      have dead : ∀ {b}, h7.get? b = none → s.heap.get? b = none := fun {b} e => by
        cases q : s.heap.get? b with
        | none => rfl
        | some o =>
          by_cases hb : Wb l as b
          · obtain ⟨o', e', _⟩ := S7.ok b (.inl hb); rw [e] at e'; cases e'
          · have := S7.fx.sub b o (sb2 b o (up' b o hb q)); rw [e] at this; cases this
      have hfl : ∀ b, Wb l as b → b ≠ fl := fun b hb e => nfl (e ▸ hb)
      have hxf : x ≠ fl := fun e => nWx (.inr e)
      refine ⟨h14, t13, m0, rfl, F14.less (fun y v e => put_more (by rfl) y v (put_more (by rfl) y v e)), fun b hb => ok14 b (.inl hb), rfl, lst_refs a1 fun o e => T0 l o (oW l (.inl rfl)) (hfl l (.inl rfl)) e, ?_, nas ++ [(x, dx)], ?_, ?_, ?_, ?_⟩
      · exact a2.keep (fun p hp o e => by have := a2.inst p hp; rw [e] at this; cases this; exact F14.sub _ _ (sb2 _ _ (ia p hp))) fun p hp o e => T0 p.2 o (oW _ (.inr ⟨p, hp, rfl⟩)) (hfl _ (.inr ⟨p, hp, rfl⟩)) e
      · rw [List.length_append, n1]; rfl
      · rw [refs_append]; exact xf14
      · have e1 : news (gs.take (i + 1)) r = news (gs.take i) r ++ [(gi, r.2.1, r.2.2)] := by
          unfold news
          rw [List.take_add_one, eg, List.map_append]; rfl
        rw [e1]
        have n3' : Rw CI h14 nas (news (gs.take i) r) := n3.keep (fun p hp o e => T0 p.1 o (S7.fx.notOwn (n3.inst p hp) (fun _ _ q => by cases q) (fun _ q => by cases q)) (fun q => (n4 p hp).2.2.1 (.inr q)) e) fun p hp o e => T0 p.2 o (n4 p hp).1 (fun q => (n4 p hp).2.1 (.inr q)) e
        refine ⟨fun p hp => ?_, paired_append n3'.flds (.cons ?_ .nil), ?_⟩
        · rcases List.mem_append.mp hp with hp | hp
          · exact n3'.inst p hp
          · rw [List.mem_singleton.mp hp]; exact T9 x _ nOx hxf hne eI9
        · exact D11.at fun o e => T1 dx o nOd (Ne.symm hfd) e
        · rw [List.map_append, List.nodup_append]
          refine ⟨n3.nd, by simp, fun b hb c hc e => ?_⟩
          obtain ⟨p, hp, rfl⟩ := List.mem_map.mp hb
          have hc : c = dx := by simpa using hc
          obtain ⟨o, eo, _⟩ := n3.alive hp
          rw [e, hc, f2] at eo; cases eo
      · intro p hp
        rcases List.mem_append.mp hp with hp | hp
        · exact n4 p hp
        · rw [List.mem_singleton.mp hp]; exact ⟨nOd, nWd, nWx, dead f1, dead f2⟩
  · rintro h7 t7 _ S7 ⟨rfl, a1, a2, nas, n1, n2, n3, n4⟩
    rw [List.length_map] at n1 n3
    rw [List.take_length] at n3
    have hen : (refs nas).isEmpty = gs.isEmpty := by
      rw [Bool.eq_iff_iff]
      simp only [List.isEmpty_iff, ← List.length_eq_zero_iff, refs_length, n1]
    have hlf : l ≠ fl := fun e => nfl (.inl e.symm)
    have hlW : W' l := .inl (.inl rfl)
    have hout : ∀ p ∈ as, β1.get? p.2 = none := fun p hp => (S7.out _ (.inl (.inr ⟨p, hp, rfl⟩))).2
    refine s_if hA' S7 (Tr.eqNil (Ev.a (nl S7.fx) n2) (EvL.disp Ar.nil (by decide)).a) (fun e h8 t8 S8 g8 => ?_) (fun e h8 t8 S8 g8 => ?_)
    · rw [hen, List.isEmpty_iff] at e
      have a1' : Lst h8 l (refs as) := g8.lst a1
      have a2' : Rw CI h8 as r1 := a2.gw g8 oL
      have htk : as.take (a + 1) = as.take a ++ [p] := by rw [List.take_add_one, hpa]; rfl
      refine s_setslice (s := { s with heap := h8, toks := t8 }) (news := refs [p]) (i := a) (j := a + n) hA' S8 hlW (EvL.aW (W := (· = l)) (EvL.disp (Ar.cons (u := .ref p.1) (nl S8.fx) Ar.nil) (by show 1 ≤ 1000; omega)) (fun b hb => hb ▸ (let ⟨vs, n, e, _⟩ := a1'; ⟨_, e⟩))) (Ev.bufRow X S8.fx (nl S8.fx) (Bb.sub sb)) (nl S8.fx) (Ev.cast (Ev.add (nl S8.fx) (nl S8.fx)) (by omega)) a1'
        (by rw [refs_length, xr.len]; omega) (by show 1 ≤ 1000; omega) (by omega) (by rw [refs_length, xr.len]; omega) fun h9 t9 xl9 k9 F9 ok9 => ?_
      have a29 : Rw CI h9 as r1 := a2'.keep (fun p hp o e => by have := a2'.inst p hp; rw [e] at this; cases this; exact F9.sub _ _ (ia p hp)) fun p hp o e => k9 _ o (fun q => nWl ⟨p, hp, q.symm⟩) (oL p hp) e
      have xl9 : Lst h9 l (refs (as.take (a + 1) ++ as.drop (a + n))) := by
        rw [refs_take, refs_drop, ← refs_append, ← refs_append, ← htk] at xl9; exact xl9
      have R9 := a29.gap (i := a + 1) (j := a + n) (by omega)
      generalize has1 : as.take (a + 1) ++ as.drop (a + n) = as1 at xl9 R9
      generalize hr2 : r1.take (a + 1) ++ r1.drop (a + n) = r2 at R9
      have hl2 : a < r2.length ∧ r2.length ≤ 1000 := by rw [← hr2]; simp; omega
      have sub1 : ∀ p ∈ as1, p ∈ as := fun p hp => by
        rw [← has1] at hp
        exact (List.mem_append.mp hp).elim List.mem_of_mem_take List.mem_of_mem_drop
      have S9 : St β1 W' (KW W' h9) (dEnv (top 10) qual cd L f) h9 m0 := ⟨F9, S8.out, ok9, .refl, fun _ _ a b => b.trans a⟩
      obtain ⟨fd, gd, dd⟩ := X.fn 9 (by decide)
      refine s_expr (s := { s with heap := h9, toks := t9 }) (e_call hA' S9.fx X.bs X.kin (by rfl) gd dd.1 (Ar.cons (u := .ref b) (nl S9.fx) (Ar.cons (u := .int a) (nl S9.fx) Ar.nil)) fun vs h10 t10 g10 pp => ?_)
      have S10 := S9.gw g10
      refine drop_ok (s := { s with heap := h10, toks := t10 }) X hA' dd S10.fx.sub pp (Bb.sub sb) (g10.lst xl9) (R9.gw g10 fun p hp => oL p (sub1 p hp)) (fun p hp => hout p (sub1 p hp)) hl2.1 hl2.2 fun h11 t11 b11 R11 => ?_
      have hld : ¬ Wd as1 l := fun ⟨p, hp, e⟩ => nWl ⟨p, sub1 p hp, e⟩
      have xl11 : Lst h11 l (refs as1) := lst_refs (g10.lst xl9) fun o e => b11 l o hld e
      have b11' : But W' h10 h11 := b11.mono fun b ⟨p, hp, e⟩ => .inl (.inr ⟨p, sub1 p hp, e⟩)
      have ok11 : Wok W' h11 := fun b hb => by
        by_cases hd : Wd as1 b
        · exact R11.wok b hd
        · obtain ⟨o, e, r⟩ := S10.ok b hb
          exact ⟨o, b11 b o hd e, r⟩
      have S11 : St β1 W' (KW W' h11) (dEnv (top 10) qual cd L f) h11 m0 := S10.eff b11' ok11 .refl fun _ _ a b => b.trans a
      have hl1 : as1.length = r2.length := R9.len
      refine s_setslice (s := { s with heap := h11, toks := t11 }) (news := refs []) (i := a) (j := a + 1) hA' S11 hlW (EvL.aW (W := (· = l)) (EvL.disp Ar.nil (by decide)) (fun b hb => hb ▸ (let ⟨vs, n, e, _⟩ := xl11; ⟨_, e⟩))) (Ev.bufRow X S11.fx (nl S11.fx) (Bb.sub sb)) (nl S11.fx) (Ev.cast (Ev.add (nl S11.fx) Ev.int) (by omega)) xl11
        (by rw [refs_length, hl1]; omega) (by decide) (by omega) (by rw [refs_length, hl1]; omega) fun h12 t12 xl12 k12 F12 ok12 => x_nil (x_nil ?_)
      have xl12 : Lst h12 l (refs (as1.take a ++ as1.drop (a + 1))) := by
        rw [refs_take, refs_drop, ← refs_append, ← refs_append, List.append_nil] at xl12; exact xl12
      have R12 : Rw CI h12 as1 (dropP r2 a) := R11.keep (fun p hp o e => by have := R11.inst p hp; rw [e] at this; cases this; exact F12.sub _ _ (ia p (sub1 p hp))) fun p hp o e => k12 _ o (fun q => nWl ⟨p, sub1 p hp, q.symm⟩) (oL p (sub1 p hp)) e
      refine q h12 t12 _ (dn h12 F12.sub) xl12 ?_ fun p hp => .inl (sub1 p ((List.mem_append.mp hp).elim List.mem_of_mem_take List.mem_of_mem_drop))
      rw [putP, if_pos e, hr1, hr2]
      exact R12.gap (by omega)
    · rw [hen] at e
      have e : gs ≠ [] := fun q => by rw [q] at e; cases e
      have a1' : Lst h8 l (refs as) := g8.lst a1
      have a2' : Rw CI h8 as r1 := a2.gw g8 oL
      have n3' : Rw CI h8 nas (news gs r) := n3.gw g8 fun p hp q => (n4 p hp).1 (.inl q)
      refine s_setslice (s := { s with heap := h8, toks := t8 }) (news := refs nas) (i := a) (j := a + n) hA' S8 hlW (Ev.aW (W := (· = l)) (nl S8.fx) (g8.lst n2) (Ne.symm hlf)) (Ev.bufRow X S8.fx (nl S8.fx) (Bb.sub sb)) (nl S8.fx) (Ev.cast (Ev.add (nl S8.fx) (nl S8.fx)) (by omega)) a1'
        (by rw [refs_length, xr.len]; omega) (by rw [refs_length, n1]; omega) (by omega) (by rw [refs_length, xr.len]; omega) fun h9 t9 xl9 k9 F9 ok9 => x_nil (x_nil ?_)
      have xl9 : Lst h9 l (refs (as.take a ++ nas ++ as.drop (a + n))) := by
        rw [refs_take, refs_drop, ← refs_append, ← refs_append] at xl9; exact xl9
      have a29 : Rw CI h9 as r1 := a2'.keep (fun p hp o e => by have := a2'.inst p hp; rw [e] at this; cases this; exact F9.sub _ _ (ia p hp)) fun p hp o e => k9 _ o (fun q => nWl ⟨p, hp, q.symm⟩) (oL p hp) e
      have n39 : Rw CI h9 nas (news gs r) := n3'.keep (fun p hp o e => k9 _ o (fun q => (n4 p hp).2.2.1 (q ▸ hlW)) (fun q => S8.fx.notOwn (n3'.inst p hp) (fun _ _ q => by cases q) (fun _ q => by cases q) (.inl q)) e) fun p hp o e => k9 _ o (fun q => (n4 p hp).2.1 (q ▸ hlW)) (fun q => (n4 p hp).1 (.inl q)) e
      refine q h9 t9 _ (dn h9 F9.sub) xl9 ?_ fun p hp => ?_
      · rw [putP, if_neg e, hr1, hr]
        refine a29.splice n39 (fun p hp q hq e => ?_) (by omega)
        obtain ⟨o, eo, _⟩ := xr.alive hp
        rw [e, (n4 q hq).2.2.2.2] at eo; cases eo
      · rcases List.mem_append.mp hp with hp | hp
        · rcases List.mem_append.mp hp with hp | hp
          · exact .inl (List.mem_of_mem_take hp)
          · exact .inr ⟨(n4 p hp).2.2.2.1, (n4 p hp).2.2.2.2⟩
        · exact .inl (List.mem_of_mem_drop hp)
end
end Mine

set_option Elab.async false
set_option maxRecDepth 100000
set_option linter.unusedVariables false
set_option autoImplicit false
namespace Mine
open PySem PySem.W PyProof.Rows PySem.Calls PySem.SeqAt

theorem picked_eq {p : Nat → Bool} {f : Nat → V} : ∀ {n : Nat}, picked p f n = ((List.range n).filter p).map f
  | 0 => rfl
  | n + 1 => by
    simp only [picked, picked_eq, List.range_succ, List.filter_append, List.map_append]
    congr 1
    cases h : p n <;> simp [h]
def nats (l : List Nat) : List V := l.map fun n : Nat => V.int (n : Int)
def endsP (rw : List Tri) : List Nat := ((List.range rw.length).filter fun i => decide (i + 1 = rw.length) || cl rw (i + 1) != cl rw i).map (· + 1)

section
variable {prog : Program} {w : World} {k : Nat} {K : Frag} {mg : Str → Option Value} {CI CB : Addr} {β : Heap}

theorem group_ends_ok {A : Around} {s : Shared} {f b l : Addr} {bb : Bool} {vals : List Value} {R : Result → Shared → Prop} {as : List (Addr × Addr)} {rw : List Tri} (T : Tx K mg CI CB s.heap) (hA : Lv (k + 1) A) (D : Df K s.heap (top 4) f)
    (hp : Paired (Rep s.heap) vals [.ref b]) (Bb : Bo CB s.heap b l bb) (xl : Lst s.heap l (refs as)) (xr : Rw CI s.heap as rw) (hz : rw.length ≤ 900)
    (q : ∀ v h' t, Sub s.heap h' → (∃ e, v = .ref e ∧ Lst h' e (nats (endsP rw)) ∧ s.heap.get? e = none) → R (.ok (.ret v)) { s with heap := h', toks := t }) :
    codeAny (model prog w) A (.call (.ref f) ⟨vals, []⟩) R s := by
  refine enterW (W := no) (I := fun _ => True) hA T.bs Sub.refl (fun b hb => hb.elim) wok_no D hp rfl trivial (fun _ _ _ x => x) fun qual cd L h1 t1 β1 E sb up' dn low fL kw S hA' => ?_
  have X := T.sub sb
  have xl1 := lst_sub sb xl
  have xr1 := xr.sub sb
  have zr : (refs as).length ≤ 1000 := by rw [refs_length, xr.len]; omega
  refine s_assign hA' S (isVar_cell (by rfl)) (Ev.bufRow X S.fx (nl S.fx) (Bb.sub sb)) fun h2 t2 S2 => ?_
  have hn : (refs as).length = rw.length := by rw [refs_length, xr.len]
  have ul : (upto 0 rw.length).length = rw.length := upto_length
  refine s_ret (s := { s with heap := h2, toks := t2 }) hA' S2 (EvL.comp (mc := [("row", .ref l)]) (us := upto 0 rw.length) (p := fun i => decide (i + 1 = rw.length) || cl rw (i + 1) != cl rw i) (f := fun i => V.int ((i + 1 : Nat) : Int))
    (bind := fun i m => put m "at" (.int (i : Int))) S2.fx (.cons (by rfl) .nil) (Src.range1 (W := no) al_no S2.fx X.bs (by rfl) (X.none _ (by decide)) (Ev.cast (Ev.len S2.fx X.bs (by rfl) (X.none _ (by decide)) (Ev.a (nc S2.fx) (lst_sub S2.fx.sub xl1)) zr) (by rw [hn])) (by omega)) (by rw [ul]; omega)
    ⟨fun i x u e => ?_, fun A C i u hA hu => ?_, fun C i h4 hC g F4 hi => ?_⟩ (by rfl) (by decide)) fun v h3 t3 S3 hv => ?_
  · rw [get_put]
    by_cases hx : x = "at"
    · subst hx; cases e
    · rw [if_neg hx]; exact e
  · have hi : i < rw.length := by have := (List.getElem?_eq_some_iff.mp hu).1; rwa [ul] at this
    rw [upto_get hi] at hu
    cases hu
    rw [show (0 : Int) + (i : Int) = (i : Int) by omega]
    exact TkL.name (cloc (by rfl))
  · rw [ul] at hi
    have oC : ∀ p ∈ as, p.2 ≠ C := fun p hp e => by
      obtain ⟨o, eo, _⟩ := (xr1.sub S2.fx.sub).alive hp
      rw [e, hC] at eo; cases eo
    have e1 : decide (i + 1 = rw.length) = (((i : Int) + 1) == ((refs as).length : Int)) := by rw [hn, Bool.eq_iff_iff]; simp; omega
    rw [e1]
    refine ⟨Te.one (Tr.or2 (Tr.cmp (Ev.add (cnl F4 (u := .int (i : Int))) Ev.int) (Ev.len F4 X.bs (cglob (by rfl)) (X.none _ (by decide)) (Ev.a (cnc F4 (u := .ref l)) (lst_sub F4.sub xl1)) zr) c_eq) fun h0 => ?_), fun _ => Ev.cast (Ev.add (cnl F4 (u := .int (i : Int))) Ev.int) (by omega)⟩
    have h0 : i + 1 < rw.length := by
      have := ne_of_beq_false h0
      rw [hn] at this
      omega
    exact Tr.cmp (Ev.rowCl X F4 (Ev.a (cnc F4 (u := .ref l)) (lst_sub F4.sub xl1)) (xr1.sub F4.sub) (Ev.cast (Ev.add (cnl F4 (u := .int (i : Int))) Ev.int) (show (i : Int) + 1 = ((i + 1 : Nat) : Int) by omega)) (by omega) (by omega) (by omega) oC) (Ev.rowCl X F4 (Ev.a (cnc F4 (u := .ref l)) (lst_sub F4.sub xl1)) (xr1.sub F4.sub) (cnl F4 (u := .int (i : Int))) (by omega) (by omega) (by omega) oC) c_ne
  · refine q v h3 t3 (fun b o e => dn h3 S3.fx.sub b o (fun q => q) e) ?_
    obtain ⟨e, e1, e2, e3⟩ := hv
    rw [picked_eq, ul] at e2
    refine ⟨e, e1, ?_, no_get (fun b o q => S2.fx.sub b o (sb b o q)) e3⟩
    unfold nats endsP
    rw [List.map_map]
    exact e2
end
end Mine

set_option Elab.async false
set_option maxRecDepth 100000
set_option linter.unusedVariables false
set_option autoImplicit false
namespace Mine
open PySem PySem.W PyProof.Rows PySem.Calls PySem.SeqAt

def us1 (r : Tri) : Tri := (r.1, r.2.1, true)
def bg (es : List Nat) : Nat → Nat
  | 0 => 0
  | i + 1 => es.getD i 0
def spreadS (rw : List Tri) (es : List Nat) : Nat → List Tri
  | 0 => rw
  | i + 1 => if (slice (spreadS rw es i) (bg es i) (es.getD i 0)).any (·.2.2) then sr us1 (spreadS rw es i) (bg es i) (es.getD i 0 - bg es i) else spreadS rw es i
def spreadP (rw : List Tri) : List Tri := spreadS rw (endsP rw) (endsP rw).length
theorem spreadS_length {rw : List Tri} {es : List Nat} : ∀ {i : Nat}, (spreadS rw es i).length = rw.length
  | 0 => rfl
  | i + 1 => by simp only [spreadS]; split; rw [sr_length, spreadS_length]; exact spreadS_length
theorem ends_pair {rw : List Tri} : (endsP rw).Pairwise (· < ·) := by
  unfold endsP
  rw [List.pairwise_map]
  exact ((List.pairwise_lt_range).filter _).imp fun h => Nat.succ_lt_succ h
theorem ends_le {rw : List Tri} {e : Nat} (h : e ∈ endsP rw) : 1 ≤ e ∧ e ≤ rw.length := by
  unfold endsP at h
  obtain ⟨i, hi, rfl⟩ := List.mem_map.mp h
  have := List.mem_range.mp (List.mem_filter.mp hi).1
  omega
theorem ends_bg {rw : List Tri} {i : Nat} (h : i < (endsP rw).length) : bg (endsP rw) i ≤ (endsP rw).getD i 0 ∧ (endsP rw).getD i 0 ≤ rw.length := by
  have e : (endsP rw).getD i 0 = (endsP rw)[i] := by rw [List.getD_eq_getElem?_getD, List.getElem?_eq_getElem h]; rfl
  rw [e]
  refine ⟨?_, (ends_le (List.getElem_mem h)).2⟩
  cases i with
  | zero => exact Nat.zero_le _
  | succ i =>
    show (endsP rw).getD i 0 ≤ _
    have h' : i < (endsP rw).length := by omega
    rw [show (endsP rw).getD i 0 = (endsP rw)[i] by rw [List.getD_eq_getElem?_getD, List.getElem?_eq_getElem h']; rfl]
    exact Nat.le_of_lt (List.pairwise_iff_getElem.mp ends_pair i (i + 1) h' h (Nat.lt_succ_self i))
theorem picked_empty {p : Nat → Bool} {f : Nat → V} {n : Nat} : (picked p f n).isEmpty = !(List.range n).any p := by
  rw [picked_eq, Bool.eq_iff_iff]
  simp [List.isEmpty_iff, List.filter_eq_nil_iff]
theorem any_range {rw : List Tri} : (List.range rw.length).any (fun i => (rw.getD i default).2.2) = rw.any (·.2.2) := by
  rw [Bool.eq_iff_iff, List.any_eq_true, List.any_eq_true]
  constructor
  · rintro ⟨i, hi, h⟩
    have hi := List.mem_range.mp hi
    refine ⟨rw[i], List.getElem_mem hi, ?_⟩
    rwa [List.getD_eq_getElem?_getD, List.getElem?_eq_getElem hi] at h
  · rintro ⟨r, hr, h⟩
    obtain ⟨i, hi, rfl⟩ := List.getElem_of_mem hr
    refine ⟨i, List.mem_range.mpr hi, ?_⟩
    rw [List.getD_eq_getElem?_getD, List.getElem?_eq_getElem hi]; exact h

section
variable {prog : Program} {w : World} {k : Nat} {K : Frag} {mg : Str → Option Value} {CI CB : Addr} {β : Heap}

theorem Tr.cast {env : Env} {h : Heap} {e : Expr} {b b' : Bool} (x : Tr prog w k env h e b) (hb : b = b') : Tr prog w k env h e b' := hb ▸ x
theorem get_append {m m' : List (Str × V)} {x : Str} {u : V} : get m x = some u → get (m ++ m') x = some u := by
  induction m with
  | nil => intro e; cases e
  | cons p r ih =>
    intro e
    simp only [get, List.cons_append] at e ⊢
    split
    · rename_i h; rw [if_pos h] at e; exact e
    · rename_i h; rw [if_neg h] at e; exact ih e
theorem EvL.groupEnds {env : Env} {h : Heap} {m : List (Str × V)} {e : Expr} {p pos : Pos} {b l : Addr} {bb : Bool} {as : List (Addr × Addr)} {rw : List Tri} (T : Tx K mg CI CB β) (F : Fx β env h m) (hx : env.kindOf "group_ends" = some .globalImplicit) (y : Ev prog w (k + 1) env h e (.ref b))
    (Bb : Bo CB β b l bb) (xl : Lst h l (refs as)) (xr : Rw CI h as rw) (oL : ∀ p ∈ as, p.2 ≠ env.locals) (hz : rw.length ≤ 900)
    (he : starEach [e] env = (false, eval e env) :: starEach [] env := by rfl) (hplain : (backTo pos (starEach [] env)).any (·.1) = false := by rfl) :
    EvL prog w (k + 1) env h (.Call (.Name "group_ends" p) [e] [] pos) (nats (endsP rw)) := by
  obtain ⟨fg, gg, dg⟩ := T.fn 4 (by decide)
  exact Gr.def (P := fun v h₀ h' => ∃ l, v = .ref l ∧ Lst h' l (nats (endsP rw)) ∧ h₀.get? l = none) F T.bs T.kin hx gg dg.1 (Ar.cons y Ar.nil he)
    (fun A hA s vs R sub g pp q => group_ends_ok (T.sub sub) hA (dg.sub sub) pp (Bb.sub sub) (g.lst xl) (xr.gw g oL) hz fun v h' t s' hv => q v h' t s' hv)
    (fun h1 h2 v h' g ⟨l, a, b, c⟩ => ⟨l, a, b, g.fresh c⟩) he hplain

theorem s_ifJ {env : Env} {m : List (Str × V)} {W : Addr → Prop} {I : Heap → Prop} {A : Around} {s : Shared} {Q : Flow → Shared → Prop} {E : Value → Shared → Prop} {rest body : List Stmt} {pos : Pos} {test : Expr} {b : Bool} (hA : Lv k A) (S : St β W I env s.heap m) (x : Tr prog w k env s.heap test b) (P : Heap → Prop)
    (qt : b = true → ∀ h' t, St β W I env h' m → Gw env.locals s.heap h' → wpAny (model prog w) A (execs body env) (fun f s' => ∃ h'' t'', f = .next ∧ s' = { s with heap := h'', toks := t'' } ∧ P h'') E { s with heap := h', toks := t })
    (qf : b = false → ∀ h', St β W I env h' m → Gw env.locals s.heap h' → P h')
    (q : ∀ h' t, P h' → wpAny (model prog w) A (execs rest env) Q E { s with heap := h', toks := t }) :
    wpAny (model prog w) A (execs (.If test body [] pos :: rest) env) Q E s :=
  s_if0 hA S x (fun e h' t S' g => wpAny_mono (qt e h' t S' g) (fun f s' ⟨h'', t'', ef, es, p⟩ => by subst ef; subst es; exact q h'' t'' p) fun _ _ e => e) fun e h' t S' g => q h' t (qf e h' S' g)

theorem spread_ok {A : Around} {s : Shared} {f b l : Addr} {bb : Bool} {vals : List Value} {R : Result → Shared → Prop} {as : List (Addr × Addr)} {rw : List Tri} (T : Tx K mg CI CB β) (hA : Lv (k + 2) A) (D : Df K β (top 11) f) (sub : Sub β s.heap)
    (hp : Paired (Rep s.heap) vals [.ref b]) (Bb : Bo CB β b l bb) (xl : Lst s.heap l (refs as)) (xr : Rw CI s.heap as rw) (wβ : ∀ p ∈ as, β.get? p.2 = none) (hz : rw.length ≤ 900)
    (q : ∀ h' t, But (Wd as) s.heap h' → Rw CI h' as (spreadP rw) → R (.ok (.ret .none)) { s with heap := h', toks := t }) :
    codeAny (model prog w) A (.call (.ref f) ⟨vals, []⟩) R s := by
  have nWi := rw_inst xr
  refine enterW (W := Wd as) (I := fun h => KW (Wd as) s.heap h) hA T.bs sub (fun b ⟨p, hp, e⟩ => e ▸ wβ p hp) xr.wok D hp rfl .refl (fun _ _ a b => b.trans a) fun qual cd L h1 t1 β1 E sb up' dn low fL kw S hA' => ?_
  have X := T.sub sb
  have ia : ∀ p ∈ as, β1.get? p.1 = some (instObj CI p.2) := fun p hp => up' _ _ (nWi p hp) (xr.inst p hp)
  have xl1 : Lst β1 l (refs as) := lst_refs xl (up' _ · (rw_list xr xl))
  have oL : ∀ p ∈ as, p.2 ≠ (dEnv (top 11) qual cd L f).locals := fun p hp e => (S.out _ ⟨p, hp, rfl⟩).1 (.inl e)
  have za : as.length ≤ 1000 := by rw [xr.len]; omega
  refine s_assign hA' S (.inl (by rfl)) Ev.int fun h2 t2 S2 => ?_
  have xr2 : Rw CI h2 as rw := xr.kw (fun p hp => S2.fx.sub _ _ (ia p hp)) S2.inv
  generalize hes : endsP rw = es at *
  let mk : Nat → List (Str × V) := fun x => [("buffer", .ref b), ("begin", .int x)]
  have S2 : St β1 (Wd as) (fun h => KW (Wd as) s.heap h) (dEnv (top 11) qual cd L f) h2 (mk 0) := S2
  refine s_for (s := { s with heap := h2, toks := t2 }) (us := nats es) hA' S2 (Src.list ((hes ▸ EvL.groupEnds X S2.fx (by rfl) (nl S2.fx) (Bb.sub sb) (lst_sub S2.fx.sub xl1) xr2 oL hz).aW S2.ok.al) Tgt.name) (fun i m => put m "end" ((nats es).getD i .none)) (fun A hA i u hu => ?_)
    (fun i h m1 => m1 = mk (bg es i) ∧ Rw CI h as (spreadS rw es i)) (fun h' g => ⟨rfl, xr2.gw g oL⟩) (fun n h7 h8 m1 F7 ok7 kf kw ⟨em, R⟩ => ⟨em, R.kw (fun p hp => kf _ _ (F7.notOwn (R.inst p hp) (fun _ _ q => by cases q) (fun _ q => by cases q)) (fun _ q => by cases q) (R.inst p hp)) kw⟩) ?_ ?_
  · rw [show (nats es).getD i .none = u by rw [List.getD_eq_getElem?_getD, hu]; rfl]
    exact TkL.name (by rfl)
  · rintro i h3 t3 _ β2 E' hi sb2 all2 S3 ⟨rfl, R3⟩
    have hi : i < es.length := by simpa [nats] using hi
    have hbe := ends_bg (rw := rw) (i := i) (by rw [hes]; exact hi)
    rw [hes] at hbe
    obtain ⟨hb, hle⟩ := hbe
    have eu : (nats es).getD i .none = .int (es.getD i 0 : Nat) := by
      unfold nats
      rw [List.getD_eq_getElem?_getD, List.getElem?_map, List.getD_eq_getElem?_getD, List.getElem?_eq_getElem hi]; rfl
    rw [eu] at S3
    have hnext : spreadS rw es (i + 1) = if (slice (spreadS rw es i) (bg es i) (es.getD i 0)).any (·.2.2) then sr us1 (spreadS rw es i) (bg es i) (es.getD i 0 - bg es i) else spreadS rw es i := rfl
    have hlc : (spreadS rw es i).length = rw.length := spreadS_length
    have hbg : bg es (i + 1) = es.getD i 0 := rfl
    rw [hnext, hbg]
    generalize spreadS rw es i = cur at R3 hlc
    generalize bg es i = x at S3 hb
    generalize es.getD i 0 = y at S3 hb hle
    have X2 := X.sub sb2
    refine s_assignL (s := { s with heap := h3, toks := t3 }) hA' S3 (.inl (by rfl)) (EvL.cutR (Ev.a (Ev.bufRow X2 S3.fx (nl S3.fx) (Bb.sub (fun b o e => sb2 b o (sb b o e)))) (lst_sub S3.fx.sub (lst_sub sb2 xl1))) (nl S3.fx) (nl S3.fx) hb (by rw [R3.len]; omega) za) fun β3 st h4 t4 sb3 xs fs S4 => ?_
    have X3 := X2.sub sb3
    have ia3 : ∀ p ∈ as, β3.get? p.1 = some (instObj CI p.2) := fun p hp => sb3 _ _ (sb2 _ _ (ia p hp))
    have R4 : Rw CI h4 as cur := R3.kw (fun p hp => S4.fx.sub _ _ (ia3 p hp)) S4.inv
    have hlen : (refs ((as.drop x).take (y - x))).length = y - x := by rw [refs_length, List.length_take, List.length_drop, R3.len]; omega
    have hsl : (slice cur x y).length = y - x := by simp [slice]; omega
    let m4 : List (Str × V) := [("buffer", .ref b), ("begin", .int x), ("end", .int y), ("stretch", .ref st)]
    have S4 : St β3 (Wd as) (KW (Wd as) h3) (dEnv (top 11) qual cd L f) h4 m4 := S4
    have Rs : Rw CI h4 ((as.drop x).take (y - x)) (slice cur x y) := R4.cut x (y - x)
    refine s_ifJ (s := { s with heap := h4, toks := t4 }) (b := (slice cur x y).any (·.2.2)) hA' S4 (Tr.cast (Tr.neNil (EvL.comp (mc := []) (us := refs ((as.drop x).take (y - x))) (p := fun i => ((slice cur x y).getD i default).2.2) (f := fun i => (refs ((as.drop x).take (y - x))).getD i .none) (bind := fun i m => put m "info" ((refs ((as.drop x).take (y - x))).getD i .none)) S4.fx Subm.nil (Src.list (EvA.ww (Ev.a (nl S4.fx) (lst_sub S4.fx.sub xs))) Tgt.name) (by rw [hlen]; omega)
        ⟨fun i x u e => by (cases e), fun A C i u hA hu => ?_, fun C i h5 hC g F5 hi => ?_⟩ (by rfl) (by decide)).a (EvL.disp Ar.nil (by decide)).a) ?_)
      (fun h => Fx β3 (dEnv (top 11) qual cd L f) h m4 ∧ Rw CI h as (if (slice cur x y).any (·.2.2) then sr us1 cur x (y - x) else cur)) (fun e h5 t5 S5 g5 => ?_) (fun e h5 S5 g5 => ?_) (fun h5 t5 ⟨F5, R5⟩ => ?_)
    · rw [show (refs ((as.drop _).take (y - _))).getD i .none = u by rw [List.getD_eq_getElem?_getD, hu]; rfl]
      exact TkL.name (cloc (by rfl))
    · rw [hlen] at hi
      obtain ⟨p, hp, hm, Ia, D⟩ := Rs.at (i := i) (by rw [hsl]; exact hi)
      have eu : (refs ((as.drop x).take (y - x))).getD i .none = .ref p.1 := by rw [List.getD_eq_getElem?_getD, refs_get hp]; rfl
      have hm' : p ∈ as := List.mem_of_mem_drop (List.mem_of_mem_take hm)
      rw [eu] at F5 ⊢
      refine ⟨Te.one (Tr.plain (Ev.inf X3 F5 (cnl F5) (F5.sub _ _ (ia3 p hm')) (D.at fun o e => g.keep _ o (oL p hm') e) fun e => ?_)), fun _ => cnl F5⟩
      have e : p.2 = C := e
      obtain ⟨o, eo, _⟩ := R4.alive hm'
      rw [e, hC] at eo; cases eo
    · rw [picked_empty, hlen, ← hsl, any_range, Bool.not_not]
    · refine s_for (s := { s with heap := h5, toks := t5 }) hA' S5 (Src.list (Ev.aW (nl S5.fx) (lst_sub S5.fx.sub xs) (lst_notW S5 xs)) Tgt.name) (fun i' m => put m "info" ((refs ((as.drop x).take (y - x))).getD i' .none)) (fun A hA i u hu => ?_)
        (fun n h m1 => m1 = m4 ∧ Rw CI h as (sr us1 cur x n)) (fun h' g => ⟨rfl, (R4.gw g5 oL).gw g oL⟩) (fun n h7 h8 m1 F7 ok7 kf kw ⟨em, R⟩ => ⟨em, R.kw (fun p hp => kf _ _ (F7.notOwn (R.inst p hp) (fun _ _ q => by cases q) (fun _ q => by cases q)) (fun _ q => by cases q) (R.inst p hp)) kw⟩) ?_ ?_
      · rw [show (refs ((as.drop _).take (y - _))).getD i .none = u by rw [List.getD_eq_getElem?_getD, hu]; rfl]
        exact TkL.name (by rfl)
      · rintro n h7 t7 _ β4 E'' hn sb4 all4 S7 ⟨rfl, R7⟩
        rw [hlen] at hn
        obtain ⟨p, hp, hm, Ia, Dp⟩ := R7.at (i := x + n) (by rw [sr_length]; omega)
        have eu : (refs ((as.drop x).take (y - x))).getD n .none = .ref p.1 := by
          have : ((as.drop x).take (y - x))[n]? = some p := by rw [List.getElem?_take_of_lt hn, List.getElem?_drop]; exact hp
          rw [List.getD_eq_getElem?_getD, refs_get this]; rfl
        have X4 := X3.sub sb4
        rw [eu] at S7
        have hd : Wd as p.2 := ⟨p, hm, rfl⟩
        refine s_setattr (s := { s with heap := h7, toks := t7 }) hA' S7 X4.kin X4.info.2.2.1 (x := "is_unsafe") (by decide) Ev.bool (fun _ _ _ q => by cases q) (a := p.1) (nl S7.fx) (S7.fx.sub _ _ (sb4 _ _ (ia3 p hm))) Dp hd (by decide) (fun h9 t9 D9 k9 F9 ok9 => x_nil ?_)
        exact ⟨h9, t9, m4, rfl, F9.less (put_more (by rfl)), ok9, rfl, R7.setK hp (fun q hq => F9.sub _ _ (sb4 _ _ (ia3 q hq))) (fun q hq hne o e => k9 _ o hne (oL q hq) e) D9⟩
      · rintro h7 t7 _ S7 ⟨rfl, R7⟩
        rw [hlen] at R7
        exact x_nil ⟨h7, t7, rfl, rfl, S7.fx, by rw [e]; exact R7⟩
    · exact ⟨S5.fx, by rw [e]; exact R4.gw g5 oL⟩
    · refine x_assign (s := { s with heap := h5, toks := t5 }) hA' F5 (.inl (by rfl)) (nl F5) fun h6 t6 F6 k6 => x_nil ?_
      have S5 : St β3 (Wd as) (KW (Wd as) h5) (dEnv (top 11) qual cd L f) h5 m4 := ⟨F5, S4.out, R5.wok, .refl, fun _ _ a b => b.trans a⟩
      have S6 := S5.kp F6 k6
      exact ⟨h6, t6, mk y, rfl, (F6.lower sb3).less fun z v e => (get_append e : get (mk y ++ ([("end", .int y), ("stretch", .ref st)] : List (Str × V))) z = some v), S6.ok, rfl, R5.kw (fun p hp => F6.sub _ _ (ia3 p hp)) S6.inv⟩
  · rintro h7 t7 _ S7 ⟨rfl, R7⟩
    refine x_nil (q h7 t7 (dn h7 S7.fx.sub) ?_)
    have : (nats es).length = es.length := by simp [nats]
    rw [this] at R7
    rw [spreadP, hes]
    exact R7
end
end Mine

set_option Elab.async false
set_option maxRecDepth 100000
set_option linter.unusedVariables false
set_option autoImplicit false
namespace Mine
open PySem PySem.W PyProof.Rows PySem.Calls PySem.SeqAt

def tv (r : Tri) : V := .tri r.1 r.2.1 r.2.2
theorem range_map {rw : List Tri} {f : Tri → V} : (List.range rw.length).map (fun i => f (rw.getD i default)) = rw.map f := by
  apply List.ext_getElem
  · simp
  · intro i h1 h2
    have hi : i < rw.length := by simpa using h1
    simp [hi]
theorem tris_getD {rw : List Tri} {i : Nat} (hi : i < rw.length) : (tris rw)[i]? = some (tv (rw.getD i default)) := tris_get hi
theorem tris_append {a b : List Tri} : tris a ++ tris b = tris (a ++ b) := by simp [tris]
theorem high_nat {n j : Nat} : highOf (some (j : Int)) n = min j n := clipAt_nat n j
theorem low_nat {n j : Nat} : lowOf (some (j : Int)) n = min j n := clipAt_nat n j
theorem cut_tris {rw : List Tri} {i j : Nat} : Mine.cut (tris rw) (some (i : Int)) (some (j : Int)) = tris (slice rw i j) := by
  unfold Mine.cut slice
  rw [high_nat, low_nat]
  unfold tris
  simp only [List.length_map]
  rw [← List.map_drop, ← List.map_take]
  congr 1
  apply List.ext_getElem?
  intro n
  simp only [List.getElem?_take, List.getElem?_drop]
  by_cases h : i ≤ rw.length
  · rw [show min i rw.length = i by omega]
    by_cases h2 : j ≤ rw.length
    · rw [show min j rw.length = j by omega]
    · rw [show min j rw.length = rw.length by omega]
      by_cases h3 : n < rw.length - i
      · rw [if_pos h3, if_pos (by omega)]
      · rw [if_neg h3]
        split
        · rw [List.getElem?_eq_none (by omega)]
        · rfl
  · rw [show min i rw.length = rw.length by omega]
    rw [if_neg (by omega)]
    split
    · rw [List.getElem?_eq_none (by omega)]
    · rfl
theorem cut_take {rw : List Tri} {j : Nat} : Mine.cut (tris rw) none (some (j : Int)) = tris (rw.take j) := by
  unfold Mine.cut
  rw [high_nat]
  unfold lowOf tris
  simp only [Option.elim, List.length_map, List.drop_zero, Nat.sub_zero]
  rw [← List.map_take]
  congr 1
  rw [List.take_eq_take_iff]
  omega
theorem cut_drop {rw : List Tri} {i : Nat} : Mine.cut (tris rw) (some (i : Int)) none = tris (rw.drop i) := by
  unfold Mine.cut
  rw [low_nat]
  unfold highOf tris
  simp only [Option.elim, List.length_map]
  rw [← List.map_drop, ← List.map_take]
  congr 1
  by_cases h : i ≤ rw.length
  · rw [show min i rw.length = i by omega, List.take_of_length_le (by simp)]
  · rw [show min i rw.length = rw.length by omega, List.drop_eq_nil_of_le (Nat.le_refl _), List.drop_eq_nil_of_le (by omega)]; simp

section
variable {prog : Program} {w : World} {k : Nat} {K : Frag} {mg : Str → Option Value} {CI CB : Addr} {β : Heap}

/-- row[j], a triple -/
theorem Ev.triAt {env : Env} {h : Heap} {e i : Expr} {pos : Pos} {rw : List Tri} {j : Int} (y : EvA prog w k env h e (tris rw)) (z : Ev prog w k env h i (.int j)) (h0 : 0 ≤ j) (hj : j < rw.length) (hz : rw.length ≤ 1000)
    (hs : ∀ o t, subscripted i false o (.int j t) = operate [o, .int j t] (getItem o (.int j t)) := by intro _ _; with_unfolding_all rfl) : Ev prog w k env h (.Subscript e i pos) (tv (rw.getD j.toNat default)) :=
  Ev.item y z h0 (tris_getD (by omega)) (by omega) hs
theorem Ev.p0 {env : Env} {h : Heap} {e : Expr} {pos ipos : Pos} {kk : Nat} {r : Tri} (x : Ev prog w k env h e (tv r)) : Ev prog w k env h (.Subscript e (.Constant (.int 0) kk ipos) pos) (.int r.1) := Ev.part (j := 0) x (by decide) rfl
theorem Ev.p1 {env : Env} {h : Heap} {e : Expr} {pos ipos : Pos} {kk : Nat} {r : Tri} (x : Ev prog w k env h e (tv r)) : Ev prog w k env h (.Subscript e (.Constant (.int 1) kk ipos) pos) (.int r.2.1) := Ev.part (j := 1) x (by decide) rfl
theorem Ev.p2 {env : Env} {h : Heap} {e : Expr} {pos ipos : Pos} {kk : Nat} {r : Tri} (x : Ev prog w k env h e (tv r)) : Ev prog w k env h (.Subscript e (.Constant (.int 2) kk ipos) pos) (.bool r.2.2) := Ev.part (j := 2) x (by decide) rfl
/-- row[j][1] -/
theorem Ev.triCl {env : Env} {h : Heap} {e i : Expr} {pos pos' ipos : Pos} {kk : Nat} {rw : List Tri} {j : Int} (y : EvA prog w k env h e (tris rw)) (z : Ev prog w k env h i (.int j)) (h0 : 0 ≤ j) (hj : j < rw.length) (hz : rw.length ≤ 1000)
    (hs : ∀ o t, subscripted i false o (.int j t) = operate [o, .int j t] (getItem o (.int j t)) := by intro _ _; with_unfolding_all rfl) : Ev prog w k env h (.Subscript (.Subscript e i pos) (.Constant (.int 1) kk ipos) pos') (.int (cl rw j.toNat)) := Ev.p1 (Ev.triAt y z h0 hj hz hs)

theorem EvL.of {env : Env} {h : Heap} {e : Expr} {us us' : List V} (x : EvL prog w k env h e us) (hu : us = us') : EvL prog w k env h e us' := hu ▸ x
theorem EvL.tSlice {env : Env} {h : Heap} {e lo hi : Expr} {pos spos : Pos} {rw : List Tri} {i j : Nat} (x : EvA prog w k env h e (tris rw)) (y : Ev prog w k env h lo (.int i)) (z : Ev prog w k env h hi (.int j)) (hz : rw.length ≤ 1000) :
    EvL prog w k env h (.Subscript e (.Slice (some lo) (some hi) none spos) pos) (tris (slice rw i j)) := (EvL.sl11 x y z (by rw [tris_length]; exact hz)).of cut_tris
theorem EvL.tTake {env : Env} {h : Heap} {e hi : Expr} {pos spos : Pos} {rw : List Tri} {j : Nat} (x : EvA prog w k env h e (tris rw)) (z : Ev prog w k env h hi (.int j)) (hz : rw.length ≤ 1000) :
    EvL prog w k env h (.Subscript e (.Slice none (some hi) none spos) pos) (tris (rw.take j)) := (EvL.sl01 x z (by rw [tris_length]; exact hz)).of cut_take
theorem EvL.tDrop {env : Env} {h : Heap} {e lo : Expr} {pos spos : Pos} {rw : List Tri} {i : Nat} (x : EvA prog w k env h e (tris rw)) (y : Ev prog w k env h lo (.int i)) (hz : rw.length ≤ 1000) :
    EvL prog w k env h (.Subscript e (.Slice (some lo) none none spos) pos) (tris (rw.drop i)) := (EvL.sl10 x y (by rw [tris_length]; exact hz)).of cut_drop
theorem EvL.tAdd {env : Env} {h : Heap} {a b : Expr} {pos : Pos} {x y : List Tri} (p : EvA prog w k env h a (tris x)) (q : EvA prog w k env h b (tris y)) (hz : x.length + y.length ≤ 1000) : EvL prog w k env h (.BinOp a .Add b pos) (tris (x ++ y)) :=
  (EvL.add p q (by rw [tris_length, tris_length]; exact hz)).of tris_append

/-- [elt for one in e] -/
theorem EvL.compOne {env : Env} {h : Heap} {m mc : List (Str × V)} {e elt : Expr} {scope : Scope} {tp pos : Pos} {rw : List Tri} (f : Tri → V) (F : Fx β env h m) (sm : Subm m mc) (y : EvA prog w k env h e (tris rw)) (hz : rw.length ≤ 1000)
    (hone : get mc "one" = none) (hi : scope.names.lookup ("one" : Str) = some .local) (hok : compOk scope env mc = true) (h3 : (scope.names.map (·.1)).Nodup)
    (el : ∀ C h3 r, r ∈ rw → h.get? C = none → Gw env.locals h h3 → Fx β (cEnv scope C env) h3 (put mc "one" (tv r)) → Ev prog w k (cEnv scope C env) h3 elt (f r))
    (hs : ∀ x, foldedSetIterable e env x = pure x := by intro _; rfl) :
    EvL prog w k env h (.ListComp elt [⟨.Name "one" tp, e, [], 0⟩] scope pos) (rw.map f) := by
  have hn : (tris rw).length = rw.length := tris_length
  have := EvL.comp (prog := prog) (w := w) (k := k) (pos := pos) (h := h) (mc := mc) (elt := elt) (ifs := []) (p := fun _ => true) (f := fun i => f (rw.getD i default)) (bind := fun i m => put m "one" (tv (rw.getD i default))) (scope := scope) F sm (Src.list (EvA.ww y) (Tgt.name (x := "one") (p := tp))) (by rw [hn]; exact hz)
    { hb := fun i => put_more hone
      hT := fun A C i u hA hu => by
        have hi' : i < rw.length := by have := (List.getElem?_eq_some_iff.mp hu).1; rwa [hn] at this
        rw [tris_getD hi'] at hu
        cases hu
        exact TkL.name (cloc hi)
      turn := fun C i h3 hC g F3 hi' => ⟨Te.nil, fun _ => el C h3 _ (by
        rw [hn] at hi'
        rw [List.getD_eq_getElem?_getD, List.getElem?_eq_getElem hi']
        exact List.getElem_mem hi') hC g F3⟩ } hok h3 hs
  rwa [picked_all, hn, range_map] at this

/-- y = [elt for one in e] -/
theorem s_compOne {env : Env} {m mc : List (Str × V)} {W : Addr → Prop} {I : Heap → Prop} {A : Around} {s : Shared} {Q : Flow → Shared → Prop} {E : Value → Shared → Prop} {rest : List Stmt} {e elt : Expr} {scope : Scope} {tp pos spos py : Pos} {y : Str} {rw : List Tri} (f : Tri → V) (hA : Lv k A) (S : St β W I env s.heap m) (sm : Subm m mc) (ye : EvA prog w k env s.heap e (tris rw)) (hz : rw.length ≤ 1000)
    (hone : get mc "one" = none) (hi : scope.names.lookup ("one" : Str) = some .local) (hy : env.kindOf y = some .local) (hok : compOk scope env mc = true) (h3 : (scope.names.map (·.1)).Nodup)
    (el : ∀ C h3 r, r ∈ rw → s.heap.get? C = none → Gw env.locals s.heap h3 → Fx β (cEnv scope C env) h3 (put mc "one" (tv r)) → Ev prog w k (cEnv scope C env) h3 elt (f r))
    (q : ∀ β' l h' t, Sub β β' → Lst β' l (rw.map f) → β.get? l = none → St β' W I env h' (put m y (.ref l)) → wpAny (model prog w) A (execs rest env) Q E { s with heap := h', toks := t })
    (hsw : swapsWith (.ListComp elt [⟨.Name "one" tp, e, [], 0⟩] scope pos) (some (.Name y py)) spos.line env = pure true := by rfl) (hs : ∀ x, foldedSetIterable e env x = pure x := by intro _; rfl) :
    wpAny (model prog w) A (execs (.Assign [.Name y py] (.ListComp elt [⟨.Name "one" tp, e, [], 0⟩] scope pos) spos :: rest) env) Q E s := by
  have hn : (tris rw).length = rw.length := tris_length
  refine s_assignComp hA S sm (W' := no) (us := tris rw) (Src.list (EvA.ww ye) (Tgt.name (x := "one") (p := tp))) (by rw [hn]; exact hz) (bind := fun i m => put m "one" (tv (rw.getD i default))) (p := fun _ => true) (f := fun i => f (rw.getD i default))
    { hb := fun i => put_more hone
      hT := fun A C i u hA hu => by
        have hi' : i < rw.length := by have := (List.getElem?_eq_some_iff.mp hu).1; rwa [hn] at this
        rw [tris_getD hi'] at hu
        cases hu
        exact TkL.name (cloc hi)
      turn := fun C i h3 hC g F3 hi' => ⟨Te.nil, fun _ => el C h3 _ (by
        rw [hn] at hi'
        rw [List.getD_eq_getElem?_getD, List.getElem?_eq_getElem hi']
        exact List.getElem_mem hi') hC g F3⟩ } hy hok h3 (fun β' l h' t a b c d => ?_) hsw hs
  rw [picked_all, hn, range_map] at b
  exact q β' l h' t a b c d

/-- _law_told -/
theorem told_ok {A : Around} {s : Shared} {f b l : Addr} {bb : Bool} {vals : List Value} {R : Result → Shared → Prop} {as : List (Addr × Addr)} {rw : List Tri} (T : Tx K mg CI CB s.heap) (hA : Lv (k + 1) A) (D : Df K s.heap (top 20) f)
    (hp : Paired (Rep s.heap) vals [.ref b]) (Bb : Bo CB s.heap b l bb) (xl : Lst s.heap l (refs as)) (xr : Rw CI s.heap as rw) (hz : rw.length ≤ 900)
    (q : ∀ v h' t, Sub s.heap h' → (∃ e, v = .ref e ∧ Lst h' e (tris rw) ∧ s.heap.get? e = none) → R (.ok (.ret v)) { s with heap := h', toks := t }) :
    codeAny (model prog w) A (.call (.ref f) ⟨vals, []⟩) R s := by
  refine enterW (W := no) (I := fun _ => True) hA T.bs Sub.refl (fun b hb => hb.elim) wok_no D hp rfl trivial (fun _ _ _ x => x) fun qual cd L h1 t1 β1 E sb up' dn low fL kw S hA' => ?_
  have X := T.sub sb
  have xl1 := lst_sub sb xl
  have xr1 := xr.sub sb
  have hn : (refs as).length = rw.length := by rw [refs_length, xr.len]
  refine s_ret hA' S (EvL.comp (mc := []) (us := refs as) (p := fun _ => true) (f := fun i => tv (rw.getD i default)) (bind := fun i m => put m "info" ((refs as).getD i .none)) S.fx Subm.nil (Src.list (EvA.ww (Ev.a (Ev.bufRow X S.fx (nl S.fx) (Bb.sub sb)) (lst_sub S.fx.sub xl1))) Tgt.name) (by rw [hn]; omega)
    ⟨fun i x u e => by (cases e), fun A C i u hA hu => ?_, fun C i h4 hC g F4 hi => ?_⟩ (by rfl) (by decide)) fun v h3 t3 S3 hv => ?_
  · rw [show (refs as).getD i .none = u by rw [List.getD_eq_getElem?_getD, hu]; rfl]
    exact TkL.name (cloc (by rfl))
  · rw [hn] at hi
    obtain ⟨p, hp, hm, Ia, D⟩ := (xr1.sub S.fx.sub).at hi
    have eu : (refs as).getD i .none = .ref p.1 := by rw [List.getD_eq_getElem?_getD, refs_get hp]; rfl
    rw [eu] at F4
    have oC : p.2 ≠ C := fun e => by
      obtain ⟨o, eo, _⟩ := (xr1.sub S.fx.sub).alive hm
      rw [e, hC] at eo; cases eo
    obtain ⟨o, eo, _⟩ := xr1.alive hm
    have nO : p.2 ≠ (dEnv (top 20) qual cd L f).locals := fun e => S.fx.notOwnβ eo (.inl e)
    have D4 := D.at fun o e => g.keep _ o nO e
    have I4 := F4.sub _ _ (xr1.inst p hm)
    exact ⟨Te.nil, fun _ => Ev.tri (Ar.cons (Ev.inf X F4 (cnl F4) I4 D4 oC) (Ar.cons (Ev.inf X F4 (cnl F4) I4 D4 oC) (Ar.cons (Ev.inf X F4 (cnl F4) I4 D4 oC) Ar.nil)))⟩
  · refine q v h3 t3 (fun b o e => dn h3 S3.fx.sub b o (fun q => q) e) ?_
    obtain ⟨e, e1, e2, e3⟩ := hv
    rw [picked_all, hn, range_map] at e2
    exact ⟨e, e1, e2, no_get (fun b o q => S.fx.sub b o (sb b o q)) e3⟩

/-- _law_ends -/
theorem law_ends_ok {A : Around} {s : Shared} {f l : Addr} {vals : List Value} {R : Result → Shared → Prop} {rw : List Tri} (T : Tx K mg CI CB s.heap) (hA : Lv (k + 1) A) (D : Df K s.heap (top 19) f)
    (hp : Paired (Rep s.heap) vals [.ref l]) (xl : Lst s.heap l (tris rw)) (hz : rw.length ≤ 900)
    (q : ∀ v h' t, Sub s.heap h' → (∃ e, v = .ref e ∧ Lst h' e (nats (endsP rw)) ∧ s.heap.get? e = none) → R (.ok (.ret v)) { s with heap := h', toks := t }) :
    codeAny (model prog w) A (.call (.ref f) ⟨vals, []⟩) R s := by
  refine enterW (W := no) (I := fun _ => True) hA T.bs Sub.refl (fun b hb => hb.elim) wok_no D hp rfl trivial (fun _ _ _ x => x) fun qual cd L h1 t1 β1 E sb up' dn low fL kw S hA' => ?_
  have X := T.sub sb
  have xl1 := lst_sub sb xl
  have hn : (tris rw).length = rw.length := tris_length
  have ul : (upto 1 rw.length).length = rw.length := upto_length
  refine s_ret hA' S (EvL.comp (mc := [("row", .ref l)]) (us := upto 1 (((rw.length : Int) + 1) - 1).toNat) (p := fun i => decide (i + 1 = rw.length) || cl rw (i + 1) != cl rw i) (f := fun i => V.int ((i + 1 : Nat) : Int))
    (bind := fun i m => put m "at" (.int ((i + 1 : Nat) : Int))) S.fx (.cons (by rfl) .nil) (Src.range2 (W := no) al_no S.fx X.bs (by rfl) (X.none _ (by decide)) (Ar.cons Ev.int (Ar.cons (Ev.cast (Ev.add (Ev.len S.fx X.bs (by rfl) (X.none _ (by decide)) (Ev.a (nc S.fx) (lst_sub S.fx.sub xl1)) (by rw [hn]; omega)) Ev.int) (by rw [hn])) Ar.nil)) (by omega) (by omega) (by omega)) (by rw [upto_length]; omega)
    ⟨fun i => put_more (by rfl), fun A C i u hA hu => ?_, fun C i h4 hC g F4 hi => ?_⟩ (by rfl) (by decide)) fun v h3 t3 S3 hv => ?_
  · rw [show (((rw.length : Int) + 1) - 1).toNat = rw.length by omega] at hu
    have hi : i < rw.length := by have := (List.getElem?_eq_some_iff.mp hu).1; rwa [ul] at this
    rw [upto_get hi] at hu
    cases hu
    rw [show (1 : Int) + (i : Int) = ((i + 1 : Nat) : Int) by omega]
    exact TkL.name (cloc (by rfl))
  · rw [upto_length] at hi
    have hi : i < rw.length := by omega
    have e1 : decide (i + 1 = rw.length) = (((i + 1 : Nat) : Int) == ((tris rw).length : Int)) := by rw [hn, Bool.eq_iff_iff]; simp; omega
    rw [e1]
    refine ⟨Te.one (Tr.or2 (Tr.cmp (cnl F4 (u := .int ((i + 1 : Nat) : Int))) (Ev.len F4 X.bs (cglob (by rfl)) (X.none _ (by decide)) (Ev.a (cnc F4 (u := .ref l)) (lst_sub F4.sub xl1)) (by rw [hn]; omega)) c_eq) fun h0 => ?_), fun _ => cnl F4⟩
    have h0 : i + 1 < rw.length := by
      have := ne_of_beq_false h0
      rw [hn] at this
      omega
    exact Tr.cmp (Ev.triCl (Ev.a (cnc F4 (u := .ref l)) (lst_sub F4.sub xl1)) (cnl F4 (u := .int ((i + 1 : Nat) : Int))) (by omega) (by omega) (by omega)) (Ev.triCl (Ev.a (cnc F4 (u := .ref l)) (lst_sub F4.sub xl1)) (Ev.cast (Ev.sub (cnl F4 (u := .int ((i + 1 : Nat) : Int))) Ev.int) (show ((i + 1 : Nat) : Int) - 1 = (i : Int) by omega)) (by omega) (by omega) (by omega)) c_ne
  · refine q v h3 t3 (fun b o e => dn h3 S3.fx.sub b o (fun q => q) e) ?_
    obtain ⟨e, e1, e2, e3⟩ := hv
    rw [picked_eq, upto_length, show (((rw.length : Int) + 1) - 1).toNat = rw.length by omega] at e2
    refine ⟨e, e1, ?_, no_get (fun b o q => S.fx.sub b o (sb b o q)) e3⟩
    unfold nats endsP
    rw [List.map_map]
    exact e2
end
end Mine

set_option Elab.async false
set_option maxRecDepth 100000
set_option linter.unusedVariables false
set_option autoImplicit false
namespace Mine
open PySem PySem.W PyProof.Rows PySem.Calls PySem.SeqAt

def ldown (c : Nat → Int) (v : Int) : Nat → Nat
  | 0 => 0
  | f + 1 => if c f = v then ldown c v f else f + 1
def lup (c : Nat → Int) (n : Nat) (v : Int) : Nat → Nat → Nat
  | 0, b => b
  | f + 1, b => if b < n ∧ c b = v then lup c n v f (b + 1) else b
theorem ldown_le {c : Nat → Int} {v : Int} : ∀ {f : Nat}, ldown c v f ≤ f
  | 0 => Nat.le_refl _
  | f + 1 => by simp only [ldown]; split; exact Nat.le_succ_of_le ldown_le; exact Nat.le_refl _
theorem lup_ge {c : Nat → Int} {n : Nat} {v : Int} : ∀ {f b : Nat}, b ≤ lup c n v f b
  | 0, b => Nat.le_refl _
  | f + 1, b => by simp only [lup]; split; exact Nat.le_trans (Nat.le_succ b) lup_ge; exact Nat.le_refl _
theorem lup_le {c : Nat → Int} {n : Nat} {v : Int} : ∀ {f b : Nat}, b ≤ n → lup c n v f b ≤ n
  | 0, b, h => h
  | f + 1, b, h => by simp only [lup]; split; exact lup_le (by omega); exact h
def lmergedP (rw : List Tri) (i j : Nat) : List Tri :=
  if j - i < 2 then rw else
    rw.take (ldown (cl rw) (cl rw i) i) ++ (slice rw (ldown (cl rw) (cl rw i) i) (lup (cl rw) rw.length (cl rw (j - 1)) (rw.length - j) j)).map (sc (least (cls (slice rw i j)))) ++ rw.drop (lup (cl rw) rw.length (cl rw (j - 1)) (rw.length - j) j)
def lhungP (rw : List Tri) (i j : Nat) : List Tri :=
  rw.take i ++ (slice rw i j).map (fun r => (r.1, r.2.1, r.2.2 || (r.2.1 != least (cls (slice rw i j) ++ [10 ^ 9]) && decide (1 < (j : Int) - i)))) ++ rw.drop j

section
variable {prog : Program} {w : World} {k : Nat} {K : Frag} {mg : Str → Option Value} {CI CB : Addr} {β : Heap}

/-- [one[1] for one in e] -/
theorem EvL.ones {env : Env} {h : Heap} {m : List (Str × V)} {e : Expr} {scope : Scope} {tp np ip sp pos : Pos} {kk : Nat} {rw : List Tri} (F : Fx β env h m) (y : EvA prog w k env h e (tris rw)) (hz : rw.length ≤ 1000)
    (hi : scope.names.lookup ("one" : Str) = some .local) (hok : compOk scope env [] = true) (h3 : (scope.names.map (·.1)).Nodup) (hs : ∀ x, foldedSetIterable e env x = pure x := by intro _; rfl) :
    EvL prog w k env h (.ListComp (.Subscript (.Name "one" np) (.Constant (.int 1) kk ip) sp) [⟨.Name "one" tp, e, [], 0⟩] scope pos) ((cls rw).map V.int) :=
  (EvL.compOne (mc := []) (fun r => V.int r.2.1) F Subm.nil y hz rfl hi hok h3 (fun C h3 r _ hC g F3 => Ev.p1 (cnl F3 (u := tv r) (by rfl) hi)) hs).of (by simp [cls])

theorem law_merged_ok {A : Around} {s : Shared} {f l : Addr} {vals : List Value} {R : Result → Shared → Prop} {rw : List Tri} {i j : Nat} (T : Tx K mg CI CB s.heap) (hA : Lv (k + 1) A) (D : Df K s.heap (top 16) f)
    (hp : Paired (Rep s.heap) vals [.ref l, .int i, .int j]) (xl : Lst s.heap l (tris rw)) (hij : i ≤ j) (hj : j ≤ rw.length) (hz : rw.length ≤ 900)
    (q : ∀ v h' t, Sub s.heap h' → (∃ e, v = .ref e ∧ Lst h' e (tris (lmergedP rw i j)) ∧ s.heap.get? e = none) → R (.ok (.ret v)) { s with heap := h', toks := t }) :
    codeAny (model prog w) A (.call (.ref f) ⟨vals, []⟩) R s := by
  refine enterW (W := no) (I := fun _ => True) hA T.bs Sub.refl (fun b hb => hb.elim) wok_no D hp rfl trivial (fun _ _ _ x => x) fun qual cd L h1 t1 β1 E sb up' dn low fL kw S hA' => ?_
  have X := T.sub sb
  have xl1 := lst_sub sb xl
  have hn : (tris rw).length = rw.length := tris_length
  have fin : ∀ {v : Value} {h' : Heap} {t : Nat} {m : List (Str × V)} {β' : Heap} {h₀ : Heap} {us : List V}, Sub β1 β' → St β' no (fun _ => True) (dEnv (top 16) qual cd L f) h' m → Sub s.heap h₀ → us = tris (lmergedP rw i j) → (∃ e, v = .ref e ∧ Lst h' e us ∧ h₀.get? e = none) → R (.ok (.ret v)) { s with heap := h', toks := t } :=
    fun sb2 S0 s0 hu ⟨e, e1, e2, e3⟩ => q _ _ _ (fun b o e => dn _ (fun b o e => S0.fx.sub b o (sb2 b o e)) b o (fun q => q) e) ⟨e, e1, hu ▸ e2, no_get s0 e3⟩
  refine s_if0 hA' S (Tr.cmp (Ev.sub (nl S.fx) (nl S.fx)) Ev.int c_lt) (fun e h2 t2 S2 _ => ?_) (fun e h2 t2 S2 _ => ?_)
  · have e := of_decide_eq_true e
    exact s_ret (s := { s with heap := h2, toks := t2 }) hA' S2 (EvL.copy S2.fx X.bs (by rfl) (X.none _ (by decide)) (Ev.a (nl S2.fx) (lst_sub S2.fx.sub xl1)) (by rw [hn]; omega)) fun v h3 t3 S3 hv => fin .refl S3 (fun b o e => S2.fx.sub b o (sb b o e)) (by rw [lmergedP, if_pos (by omega)]) hv
  · have e := of_decide_eq_false e
    have hlt : i + 2 ≤ j := by omega
    refine s_assignL (s := { s with heap := h2, toks := t2 }) hA' S2 (.inl (by rfl)) (EvL.disp (Ar.cons (Ev.triCl (Ev.a (nl S2.fx) (lst_sub S2.fx.sub xl1)) (nl S2.fx) (by omega) (by omega) (by omega)) (Ar.cons (Ev.triCl (Ev.a (nl S2.fx) (lst_sub S2.fx.sub xl1)) (Ev.sub (nl S2.fx) Ev.int) (by omega) (by omega) (by omega)) Ar.nil)) (by show 2 ≤ 1000; omega)) fun β2 le h3 t3 sb2 xe fe S3 => ?_
    rw [show (i : Int).toNat = i by omega, show ((j : Int) - 1).toNat = j - 1 by omega] at xe
    have X2 := X.sub sb2
    have xl2 := lst_sub sb2 xl1
    have ls : (cls (slice rw i j)).length = j - i := by simp [cls, slice]; omega
    refine s_assign (s := { s with heap := h3, toks := t3 }) hA' S3 (isVar_cell (by rfl)) (u := .int (least (cls (slice rw i j)))) (Ev.min S3.fx X2.bs (by rfl) (X.none _ (by decide)) (EvL.ones S3.fx (EvL.tSlice (Ev.a (nl S3.fx) (lst_sub S3.fx.sub xl2)) (nl S3.fx) (nl S3.fx) (by omega)).a (by simp [slice]; omega) (by rfl) (by rfl) (by decide)).a (by rw [ls]; omega)) fun h4 t4 S4 => ?_
    generalize hM : least (cls (slice rw i j)) = M at S4
    refine s_tupleV (s := { s with heap := h4, toks := t4 }) (xs := ["first", "behind"]) hA' S4 (fun x hx => ?_) (by decide) (Ar.cons (nl S4.fx) (Ar.cons (nl S4.fx) Ar.nil)) rfl (fun h5 t5 S5 => ?_)
    · rcases List.mem_cons.mp hx with rfl | hx
      · exact .inl (by rfl)
      · rw [List.mem_singleton.mp hx]; exact .inl (by rfl)
    · let mk : Nat → Nat → List (Str × V) := fun x y => [("row", .ref l), ("begin", .int i), ("end", .int j), ("ends", .ref le), ("lowest", .int M), ("behind", .int y), ("first", .int x)]
      have S5 : St β2 no (fun _ => True) (dEnv (top 16) qual cd L f) h5 (mk i j) := S5
      refine x_while (s := { s with heap := h5, toks := t5 }) hA' S5.fx (fun n h m => ∃ x, m = mk x j ∧ x ≤ i ∧ n = x ∧ ldown (cl rw) (cl rw i) x = ldown (cl rw) (cl rw i) i) i ⟨i, rfl, Nat.le_refl _, rfl, rfl⟩ ?_
      rintro n h6 _ E'' F6 ⟨x, rfl, hx1, hx2, hx3⟩
      refine ⟨(decide ((0 : Int) < (x : Int))) && (cl rw ((x : Int) - 1).toNat == cl rw i), ?_, fun hb h7 t7 g7 => ?_, fun hb h7 t7 g7 => ?_⟩
      · refine Tr.and2 (Tr.cmp (nl F6) Ev.int c_gt) fun hlt => ?_
        have hlt : 0 < x := by have := of_decide_eq_true hlt; omega
        exact Tr.cmp (Ev.triCl (Ev.a (nl F6) (lst_sub F6.sub xl2)) (Ev.sub (nl F6) Ev.int) (by omega) (by omega) (by omega)) (Ev.item (Ev.a (nl F6) (lst_sub F6.sub xe)) Ev.int (by decide) (by rfl) (by decide)) c_eq
      · obtain ⟨hlt, hcl⟩ := Bool.and_eq_true_iff.mp hb
        have hlt : 0 < x := by have := of_decide_eq_true hlt; omega
        obtain ⟨x, rfl⟩ : ∃ x', x = x' + 1 := ⟨x - 1, by omega⟩
        have hcl : cl rw x = cl rw i := by
          have := eq_of_beq hcl
          rwa [show (((x + 1 : Nat) : Int) - 1).toNat = x by omega] at this
        refine x_assign (s := { s with heap := h7, toks := t7 }) (u := .int (x : Nat)) hA' (F6.gw g7) (.inl (by rfl)) (Ev.cast (Ev.sub (nl (F6.gw g7)) Ev.int) (by omega)) fun h8 t8 F8 k8 => x_nil ?_
        refine ⟨x, h8, t8, mk x j, by omega, rfl, F8, x, rfl, by omega, rfl, ?_⟩
        rw [← hx3]
        simp only [ldown, hcl, if_true]
      · have hX : x = ldown (cl rw) (cl rw i) i := by
          rw [← hx3]
          cases x with
          | zero => rfl
          | succ x =>
            have : ¬ cl rw x = cl rw i := fun h2 => by
              rw [show (((x + 1 : Nat) : Int) - 1).toNat = x by omega, h2, beq_self_eq_true, Bool.and_true] at hb
              have := of_decide_eq_false hb
              omega
            simp only [ldown, this, if_false]
        refine x_while (s := { s with heap := h7, toks := t7 }) hA' (F6.gw g7) (fun n h m => ∃ y, m = mk x y ∧ j ≤ y ∧ y ≤ rw.length ∧ n = rw.length - y ∧ lup (cl rw) rw.length (cl rw (j - 1)) (rw.length - y) y = lup (cl rw) rw.length (cl rw (j - 1)) (rw.length - j) j) (rw.length - j) ⟨j, rfl, Nat.le_refl _, hj, rfl, rfl⟩ ?_
        rintro n h8 _ E3 F8 ⟨y, rfl, hy1, hy2, hn', hy3⟩
        refine ⟨(decide ((y : Int) < (tris rw).length)) && (cl rw (y : Int).toNat == cl rw (j - 1)), ?_, fun hb h9 t9 g9 => ?_, fun hb h9 t9 g9 => ?_⟩
        · refine Tr.and2 (Tr.cmp (nl F8) (Ev.len F8 X2.bs (by rfl) (X.none _ (by decide)) (Ev.a (nl F8) (lst_sub F8.sub xl2)) (by rw [hn]; omega)) c_lt) fun hlt => ?_
          rw [hn] at hlt
          have hlt : y < rw.length := by have := of_decide_eq_true hlt; omega
          exact Tr.cmp (Ev.triCl (Ev.a (nl F8) (lst_sub F8.sub xl2)) (nl F8) (by omega) (by omega) (by omega)) (Ev.item (Ev.a (nl F8) (lst_sub F8.sub xe)) Ev.int (by decide) (by rfl) (by decide)) c_eq
        · obtain ⟨hlt, hcl⟩ := Bool.and_eq_true_iff.mp hb
          have hlt : y < rw.length := by have := of_decide_eq_true hlt; rw [hn] at this; omega
          have hcl : cl rw y = cl rw (j - 1) := by
            have := eq_of_beq hcl
            rwa [show ((y : Int)).toNat = y by omega] at this
          refine x_assign (s := { s with heap := h9, toks := t9 }) (u := .int (y + 1 : Nat)) hA' (F8.gw g9) (.inl (by rfl)) (Ev.cast (Ev.add (nl (F8.gw g9)) Ev.int) (by omega)) fun h10 t10 F10 k10 => x_nil ?_
          refine ⟨rw.length - (y + 1), h10, t10, mk x (y + 1), by omega, rfl, F10, y + 1, rfl, by omega, hlt, rfl, ?_⟩
          rw [← hy3, show rw.length - y = (rw.length - (y + 1)) + 1 by omega]
          simp only [lup, hlt, hcl, and_self, if_true]
        · have hY : y = lup (cl rw) rw.length (cl rw (j - 1)) (rw.length - j) j := by
            rw [← hy3]
            cases hq : rw.length - y with
            | zero => rfl
            | succ r =>
              have : ¬ (y < rw.length ∧ cl rw y = cl rw (j - 1)) := fun ⟨h1, h2⟩ => by
                rw [hn, show ((y : Int)).toNat = y by omega, h2, beq_self_eq_true, Bool.and_true] at hb
                have := of_decide_eq_false hb
                omega
              simp only [lup, this, if_false]
          have S9 : St β2 no (fun _ => True) (dEnv (top 16) qual cd L f) h9 (mk x y) := ⟨F8.gw g9, (fun b hb => hb.elim), wok_no, trivial, fun _ _ _ x => x⟩
          have hxi : x ≤ i := hx1
          refine s_compOne (s := { s with heap := h9, toks := t9 }) (mc := [("lowest", .int M)]) (fun r => tv (sc M r)) hA' S9 (.cons (by rfl) .nil) (EvL.tSlice (Ev.a (nl S9.fx) (lst_sub S9.fx.sub xl2)) (nl S9.fx) (nl S9.fx) (by omega)).a (by simp [slice]; omega) (by rfl) (by rfl) (by rfl) (by rfl) (by decide)
            (fun C h10 r hr hC g F10 => ?_) fun β3 lm h10 t10 sb3 xm fm S10 => ?_
          · exact Ev.tri (Ar.cons (Ev.p0 (r := r) (cnl F10)) (Ar.cons (cnc F10 (u := .int M)) (Ar.cons (Ev.and2 (Ev.p2 (r := r) (cnl F10)) fun _ => Ev.cmp (Ev.p1 (r := r) (cnl F10)) (cnc F10 (u := .int M)) c_eq) Ar.nil)))
          have xm : Lst β3 lm (tris ((slice rw x y).map (sc M))) := by
            unfold tris
            rw [List.map_map]
            exact xm
          have xl3 := lst_sub sb3 xl2
          refine s_ret (s := { s with heap := h10, toks := t10 }) hA' S10 (EvL.tAdd (EvL.tAdd (EvL.tTake (Ev.a (nl S10.fx) (lst_sub S10.fx.sub xl3)) (nl S10.fx) (by omega)).a (Ev.a (nl S10.fx) (lst_sub S10.fx.sub xm)) (by simp [slice]; omega)).a (EvL.tDrop (Ev.a (nl S10.fx) (lst_sub S10.fx.sub xl3)) (nl S10.fx) (by omega)).a (by simp [slice]; omega)) fun v h11 t11 S11 hv => ?_
          refine fin (fun b o e => sb3 b o (sb2 b o e)) S11 (fun b o e => S10.fx.sub b o (sb3 b o (sb2 b o (sb b o e)))) ?_ hv
          rw [lmergedP, if_neg (by omega), hM, ← hX, ← hY]
end
end Mine

set_option Elab.async false
set_option maxRecDepth 100000
set_option linter.unusedVariables false
set_option autoImplicit false
namespace Mine
open PySem PySem.W PyProof.Rows PySem.Calls PySem.SeqAt

section
variable {prog : Program} {w : World} {k : Nat} {K : Frag} {mg : Str → Option Value} {CI CB : Addr} {β : Heap}

theorem law_hung_ok {A : Around} {s : Shared} {f l : Addr} {vals : List Value} {R : Result → Shared → Prop} {rw : List Tri} {i j : Nat} (T : Tx K mg CI CB s.heap) (hA : Lv (k + 1) A) (D : Df K s.heap (top 17) f)
    (hp : Paired (Rep s.heap) vals [.ref l, .int i, .int j]) (xl : Lst s.heap l (tris rw)) (hij : i ≤ j) (hj : j ≤ rw.length) (hz : rw.length ≤ 900)
    (q : ∀ v h' t, Sub s.heap h' → (∃ e, v = .ref e ∧ Lst h' e (tris (lhungP rw i j)) ∧ s.heap.get? e = none) → R (.ok (.ret v)) { s with heap := h', toks := t }) :
    codeAny (model prog w) A (.call (.ref f) ⟨vals, []⟩) R s := by
  refine enterW (W := no) (I := fun _ => True) hA T.bs Sub.refl (fun b hb => hb.elim) wok_no D hp rfl trivial (fun _ _ _ x => x) fun qual cd L h1 t1 β1 E sb up' dn low fL kw S hA' => ?_
  have X := T.sub sb
  have xl1 := lst_sub sb xl
  have hn : (tris rw).length = rw.length := tris_length
  have hsl : (slice rw i j).length ≤ rw.length := by simp [slice]; omega
  refine s_assign hA' S (isVar_cell (by rfl)) (u := .int (least (cls (slice rw i j) ++ [10 ^ 9]))) (Ev.min S.fx X.bs (by rfl) (X.none _ (by decide)) ((EvL.add (EvL.ones S.fx (EvL.tSlice (Ev.a (nl S.fx) (lst_sub S.fx.sub xl1)) (nc S.fx) (nc S.fx) (by omega)).a (by omega) (by rfl) (by rfl) (by decide)).a (EvL.disp (Ar.cons (Ev.pow Ev.int Ev.int (by decide) (by decide +kernel)) Ar.nil) (by show 1 ≤ 1000; omega)).a (by simp [cls]; omega)).of (by rw [List.map_append]; rfl)).a (by simp)) fun h2 t2 S2 => ?_
  generalize hM : least (cls (slice rw i j) ++ [10 ^ 9]) = M at S2
  refine s_compOne (s := { s with heap := h2, toks := t2 }) (mc := [("begin", .int i), ("end", .int j), ("lowest", .int M)]) (fun r => tv (r.1, r.2.1, r.2.2 || (r.2.1 != M && decide (1 < (j : Int) - i)))) hA' S2 (.cons (by rfl) (.cons (by rfl) (.cons (by rfl) .nil))) (EvL.tSlice (Ev.a (nl S2.fx) (lst_sub S2.fx.sub xl1)) (nc S2.fx) (nc S2.fx) (by omega)).a (by omega) (by rfl) (by rfl) (by rfl) (by rfl) (by decide)
    (fun C h10 r hr hC g F10 => ?_) fun β3 lm h10 t10 sb3 xm fm S10 => ?_
  · exact Ev.tri (Ar.cons (Ev.p0 (r := r) (cnl F10)) (Ar.cons (Ev.p1 (r := r) (cnl F10)) (Ar.cons (Ev.or2 (Ev.p2 (r := r) (cnl F10)) fun _ => Ev.and2 (Ev.cmp (Ev.p1 (r := r) (cnl F10)) (cnc F10 (u := .int M)) c_ne) fun _ => Ev.cmp (Ev.sub (cnc F10 (u := .int j)) (cnc F10 (u := .int i))) Ev.int c_gt) Ar.nil)))
  · have xm : Lst β3 lm (tris ((slice rw i j).map fun r => (r.1, r.2.1, r.2.2 || (r.2.1 != M && decide (1 < (j : Int) - i))))) := by
      unfold tris
      rw [List.map_map]
      exact xm
    have xl3 := lst_sub sb3 xl1
    refine s_ret (s := { s with heap := h10, toks := t10 }) hA' S10 (EvL.tAdd (EvL.tAdd (EvL.tTake (Ev.a (nl S10.fx) (lst_sub S10.fx.sub xl3)) (nc S10.fx) (by omega)).a (Ev.a (nl S10.fx) (lst_sub S10.fx.sub xm)) (by simp [slice]; omega)).a (EvL.tDrop (Ev.a (nl S10.fx) (lst_sub S10.fx.sub xl3)) (nc S10.fx) (by omega)).a (by simp [slice]; omega)) fun v h11 t11 S11 hv => ?_
    obtain ⟨e, e1, e2, e3⟩ := hv
    refine q v h11 t11 (fun b o e => dn h11 (fun b o e => S11.fx.sub b o (sb3 b o e)) b o (fun q => q) e) ⟨e, e1, ?_, no_get (fun b o q => S10.fx.sub b o (sb3 b o (sb b o q))) e3⟩
    rw [lhungP, hM]
    exact e2
end
end Mine

set_option Elab.async false
set_option maxRecDepth 100000
set_option linter.unusedVariables false
set_option autoImplicit false
namespace Mine
open PySem PySem.W PyProof.Rows PySem.Calls PySem.SeqAt

def lputP (rw : List Tri) (i n : Nat) (gs : List Int) : List Tri :=
  let r1 := lmergedP rw i (i + n)
  if gs ≠ [] then r1.take i ++ news gs (r1.getD i default) ++ r1.drop (i + n)
  else
    let gone := r1.getD i default
    let left := r1.take i
    let right := r1.drop (i + n)
    if gone.2.1 ∈ cls (left.drop (left.length - 1) ++ right.take 1) ∨ left ++ right = [] then left ++ right
    else if left = [] then
      right.map fun r => if r.2.1 = cl right 0 then (r.1, if cl right 0 < gone.2.1 then cl right 0 else gone.2.1, r.2.2 && cl right 0 == (if cl right 0 < gone.2.1 then cl right 0 else gone.2.1)) else r
    else if gone.2.1 < cl left (left.length - 1) then (left.map fun r => if r.2.1 = cl left (left.length - 1) then (r.1, gone.2.1, false) else r) ++ right
    else left ++ right

theorem cut_last {rw : List Tri} : Mine.cut (tris rw) (some (-1)) none = tris (rw.drop (rw.length - 1)) := by
  unfold Mine.cut
  have h1 : lowOf (some (-1)) (tris rw).length = rw.length - 1 := by
    rw [tris_length]
    exact clipAt_neg _ 1 (by omega)
  rw [h1]
  unfold highOf tris
  simp only [Option.elim, List.length_map]
  rw [← List.map_drop, ← List.map_take]
  congr 1
  rw [List.take_of_length_le (by simp)]
theorem tris_last {rw : List Tri} (h : rw ≠ []) : (tris rw).getLast? = some (tv (rw.getD (rw.length - 1) default)) := by
  have : 0 < rw.length := List.length_pos_iff.mpr h
  rw [List.getLast?_eq_getElem?, tris_length]
  exact tris_getD (by omega)

section
variable {prog : Program} {w : World} {k : Nat} {K : Frag} {mg : Str → Option Value} {CI CB : Addr} {β : Heap}

theorem EvL.tLast {env : Env} {h : Heap} {e : Expr} {p1 p2 pos spos : Pos} {kk : Nat} {rw : List Tri} (x : EvA prog w k env h e (tris rw)) (hz : rw.length ≤ 1000) :
    EvL prog w k env h (.Subscript e (.Slice (some (.UnaryOp .USub (.Constant (.int 1) kk p1) p2)) none none spos) pos) (tris (rw.drop (rw.length - 1))) := (EvL.sl10 x (Ev.neg Ev.int) (by rw [tris_length]; exact hz)).of cut_last
theorem Ev.min2 {env : Env} {h : Heap} {m : List (Str × V)} {p pos : Pos} {e e' : Expr} {a b : Int} (F : Fx β env h m) (B : Bs mg β) (hx : env.kindOf "min" = some .globalImplicit) (hv : mg "min" = none) (x : Ev prog w k env h e (.int a)) (y : Ev prog w k env h e' (.int b))
    (h1 : starEach [e, e'] env = (false, eval e env) :: starEach [e'] env := by rfl) (h2 : starEach [e'] env = (false, eval e' env) :: starEach [] env := by rfl) (hplain : (backTo pos (starEach [e'] env)).any (·.1) = false := by rfl) :
    Ev prog w k env h (.Call (.Name "min" p) [e, e'] [] pos) (.int (if b < a then b else a)) :=
  fun A hA s g Q E q => Call_Name rfl (name_built (F.gw g) B hx hv boot_min (PyProof.Rows.callWith_builtin1 (Ar.cons x (Ar.cons y Ar.nil h2) h1 A hA s g _ _ _ fun vs h1 t1 g1 pp => by
    cases pp with
    | cons e1 pp => cases pp with
      | cons e2 pp =>
        cases pp
        obtain ⟨ta, rfl⟩ := e1
        obtain ⟨tb, rfl⟩ := e2
        obtain ⟨ml, n1, -⟩ := ((F.gw g).gw g1).ns
        obtain ⟨F1, N1⟩ := adapt n1
        exact min_two_N (s := { s with heap := h1, toks := t1 }) hA.hand F1 N1 fun h' tk F' N' => q _ _ _ (g1.trans (gw_of (more := []) n1 F' N')) ⟨_, rfl⟩) h1 hplain) (by decide) (by decide))
theorem spl_cons {env : Env} {A : Around} {s : Shared} {e : Expr} {es : List Expr} {pos : Pos} {P : Value → Heap → Heap → Prop} {Q : List Value → Shared → Prop} {E : Value → Shared → Prop} (hA : Lv k A) (x : Gr prog w k env s.heap e P)
    (q : ∀ v h' t, Gw env.locals s.heap h' → P v s.heap h' → wpAny (model prog w) A (spliced (backTo pos (starEach es env))) (fun vs s1 => Q (v :: vs) s1) E { s with heap := h', toks := t })
    (he : starEach (e :: es) env = (false, eval e env) :: starEach es env := by rfl) : wpAny (model prog w) A (spliced (backTo pos (starEach (e :: es) env))) Q E s := by
  rw [he]
  exact spliced_cons (x A hA s .refl _ _ q)
theorem spl_nil {env : Env} {A : Around} {s : Shared} {pos : Pos} {Q : List Value → Shared → Prop} {E : Value → Shared → Prop} (q : Q [] s) : wpAny (model prog w) A (spliced (backTo pos (starEach [] env))) Q E s := spliced_nil q

theorem s_tupleU {env : Env} {m : List (Str × V)} {W : Addr → Prop} {I : Heap → Prop} {A : Around} {s : Shared} {Q : Flow → Shared → Prop} {E : Value → Shared → Prop} {rest : List Stmt} {pos : Pos} {xs : List (Str × Pos)} {es : List Expr} {us : List V} {k1 k2 : Nat} {p1 p2 : Pos} (hA : Lv k A) (S : St β W I env s.heap m) (hx : ∀ x ∈ xs, isVar env x.1) (hz : xs.length ≤ 10) (x : Ar prog w k env s.heap es us) (hl : xs.length = us.length)
    (q : ∀ h' t, St β W I env h' (puts m xs us) → wpAny (model prog w) A (execs rest env) Q E { s with heap := h', toks := t })
    (hw : swappedStores [.Tuple (namesOf xs) k1 p1] (.Tuple es k2 p2) env = pure none := by rfl)
    (hs : swapsWithSole [.Tuple (namesOf xs) k1 p1] (.Tuple es k2 p2) pos.line env = pure false := by rfl) :
    wpAny (model prog w) A (execs (.Assign [.Tuple (namesOf xs) k1 p1] (.Tuple es k2 p2) pos :: rest) env) Q E s :=
  s_tuple hA.hand hx hz (x A hA s .refl _ _ _ fun vs h1 t1 g1 p => ⟨us, m, β, S.fx.gw g1, by rw [hl, paired_length p], p, fun h2 t2 F2 k2 => q h2 t2 ((S.gw g1).kp F2 k2)⟩) hw hs
theorem map_ite {rw : List Tri} {p : Tri → Bool} {f : Tri → Tri} : rw.map (fun r => if p r then tv (f r) else tv r) = tris (rw.map fun r => if p r then f r else r) := by
  unfold tris
  rw [List.map_map]
  apply List.map_congr_left
  intro r _
  simp only [Function.comp]
  split <;> rfl
theorem EvL.lawMerged {env : Env} {h : Heap} {m : List (Str × V)} {e1 e2 e3 : Expr} {p pos : Pos} {l : Addr} {rw : List Tri} {i j : Nat} (T : Tx K mg CI CB β) (F : Fx β env h m) (hx : env.kindOf "_law_merged" = some .globalImplicit) (y : Ar prog w (k + 1) env h [e1, e2, e3] [.ref l, .int i, .int j])
    (xl : Lst β l (tris rw)) (hij : i ≤ j) (hj : j ≤ rw.length) (hz : rw.length ≤ 900)
    (he : starEach [e1, e2, e3] env = (false, eval e1 env) :: starEach [e2, e3] env := by rfl) (hplain : (backTo pos (starEach [e2, e3] env)).any (·.1) = false := by rfl) :
    EvL prog w (k + 1) env h (.Call (.Name "_law_merged" p) [e1, e2, e3] [] pos) (tris (lmergedP rw i j)) := by
  obtain ⟨fg, gg, dg⟩ := T.fn 16 (by decide)
  exact Gr.def (P := fun v h₀ h' => ∃ l, v = .ref l ∧ Lst h' l (tris (lmergedP rw i j)) ∧ h₀.get? l = none) F T.bs T.kin hx gg dg.1 y
    (fun A hA s vs R sub g pp q => law_merged_ok (T.sub sub) hA (dg.sub sub) pp (lst_sub sub xl) hij hj hz fun v h' t s' hv => q v h' t s' hv)
    (fun h1 h2 v h' g ⟨l, a, b, c⟩ => ⟨l, a, b, g.fresh c⟩) he hplain

theorem lmergedP_length {rw : List Tri} {i j : Nat} (hij : i ≤ j) (hj : j ≤ rw.length) : (lmergedP rw i j).length = rw.length := by
  unfold lmergedP
  split
  · rfl
  · have h1 := ldown_le (c := cl rw) (v := cl rw i) (f := i)
    have h2 := lup_ge (c := cl rw) (n := rw.length) (v := cl rw (j - 1)) (f := rw.length - j) (b := j)
    have h3 := lup_le (c := cl rw) (n := rw.length) (v := cl rw (j - 1)) (f := rw.length - j) (b := j) hj
    simp [slice]
    omega

theorem law_put_ok {A : Around} {s : Shared} {f l gl : Addr} {vals : List Value} {R : Result → Shared → Prop} {rw : List Tri} {i n : Nat} {gs : List Int} (T : Tx K mg CI CB s.heap) (hA : Lv (k + 2) A) (D : Df K s.heap (top 18) f)
    (hp : Paired (Rep s.heap) vals [.ref l, .int i, .int n, .ref gl]) (xl : Lst s.heap l (tris rw)) (xg : Lst s.heap gl (gs.map V.int)) (hn : 1 ≤ n) (hin : i + n ≤ rw.length) (hz : rw.length ≤ 400) (hg : gs.length ≤ 10)
    (q : ∀ v h' t, Sub s.heap h' → (∃ e, v = .ref e ∧ Lst h' e (tris (lputP rw i n gs)) ∧ s.heap.get? e = none) → R (.ok (.ret v)) { s with heap := h', toks := t }) :
    codeAny (model prog w) A (.call (.ref f) ⟨vals, []⟩) R s := by
  refine enterW (W := no) (I := fun _ => True) hA T.bs Sub.refl (fun b hb => hb.elim) wok_no D hp rfl trivial (fun _ _ _ x => x) fun qual cd L h1 t1 β1 E sb up' dn low fL kw S hA' => ?_
  have X := T.sub sb
  have xl1 := lst_sub sb xl
  have fin : ∀ {v : Value} {h' : Heap} {t : Nat} {m : List (Str × V)} {β' : Heap} {h₀ : Heap} {us : List V}, Sub β1 β' → St β' no (fun _ => True) (dEnv (top 18) qual cd L f) h' m → Sub s.heap h₀ → us = tris (lputP rw i n gs) → (∃ e, v = .ref e ∧ Lst h' e us ∧ h₀.get? e = none) → R (.ok (.ret v)) { s with heap := h', toks := t } :=
    fun sb2 S0 s0 hu ⟨e, e1, e2, e3⟩ => q _ _ _ (fun b o e => dn _ (fun b o e => S0.fx.sub b o (sb2 b o e)) b o (fun q => q) e) ⟨e, e1, hu ▸ e2, no_get s0 e3⟩
  refine s_assignL hA' S (isVar_cell (by rfl)) (EvL.lawMerged (i := i) (j := i + n) X S.fx (by rfl) (Ar.cons (nc S.fx) (Ar.cons (nc S.fx) (Ar.cons (Ev.cast (Ev.add (nc S.fx) (nl S.fx)) (by omega)) Ar.nil))) xl1 (by omega) hin (by omega)) fun β2 lr h2 t2 sb2 xr fr S2 => ?_
  have hlen : (lmergedP rw i (i + n)).length = rw.length := lmergedP_length (by omega) hin
  unfold lputP at fin
  generalize lmergedP rw i (i + n) = r1 at xr hlen fin
  have X2 := X.sub sb2
  have xg2 := lst_sub sb2 (lst_sub sb xg)
  have gsl : (gs.map V.int).length = gs.length := by simp
  have hss : ∀ {h m}, Fx β2 (dEnv (top 18) qual cd L f) h m → Sub s.heap h := fun F b o e => F.sub b o (sb2 b o (sb b o e))
  refine s_if0 (s := { s with heap := h2, toks := t2 }) hA' S2 (Tr.neNil (Ev.a (nl S2.fx) (lst_sub S2.fx.sub xg2)) (EvL.disp Ar.nil (by decide)).a) (fun e h3 t3 S3 _ => ?_) (fun e h3 t3 S3 _ => ?_)
  · have e : gs ≠ [] := fun q => by rw [q] at e; cases e
    refine s_ret (s := { s with heap := h3, toks := t3 }) (P := fun v h₀ h' => ∃ l, v = .ref l ∧ Lst h' l (tris (r1.take i ++ news gs (r1.getD i default) ++ r1.drop (i + n))) ∧ h₀.get? l = none) hA' S3 (EvL.tAdd (EvL.tAdd (EvL.tTake (Ev.a (nc S3.fx) (lst_sub S3.fx.sub xr)) (nc S3.fx) (by omega)).a (EvL.of (EvL.comp (mc := [("row", .ref lr), ("at", .int i)]) (us := gs.map V.int) (p := fun _ => true) (f := fun j => V.tri (gs.getD j 0) (r1.getD i default).2.1 (r1.getD i default).2.2) (bind := fun j m => put m "glyph" (.int (gs.getD j 0))) S3.fx (.cons (by rfl) (.cons (by rfl) .nil)) (Src.list (EvA.ww (Ev.a (nl S3.fx) (lst_sub S3.fx.sub xg2))) Tgt.name) (by rw [gsl]; omega)
        ⟨fun i => put_more (by rfl), fun A C j u hA hu => ?_, fun C j h4 hC g F4 hj => ?_⟩ (by rfl) (by decide)) ?_).a (by simp [news]; omega)).a (EvL.tDrop (Ev.a (nc S3.fx) (lst_sub S3.fx.sub xr)) (Ev.cast (Ev.add (nc S3.fx) (nl S3.fx)) (by omega)) (by omega)).a (by simp [news]; omega)) fun v h11 t11 S11 hv => ?_
    · have hj : j < gs.length := by have := (List.getElem?_eq_some_iff.mp hu).1; rwa [gsl] at this
      rw [show V.int (gs.getD j 0) = u by
        rw [List.getElem?_map, List.getElem?_eq_getElem hj] at hu
        cases hu
        rw [List.getD_eq_getElem?_getD, List.getElem?_eq_getElem hj]; rfl]
      exact TkL.name (cloc (by rfl))
    · have tr : ∀ (pa pb pc : Pos), Ev prog w (k + 1) (cEnv _ C (dEnv (top 18) qual cd L f)) h4 (.Subscript (.Name "row" pa) (.Name "at" pb) pc) (tv (r1.getD (i : Int).toNat default)) := fun pa pb pc => Ev.triAt (Ev.a (cnc F4 (u := .ref lr)) (lst_sub F4.sub xr)) (cnc F4 (u := .int i)) (by omega) (by omega) (by omega)
      rw [show (i : Int).toNat = i by omega] at tr
      exact ⟨Te.nil, fun _ => Ev.tri (Ar.cons (cnl F4) (Ar.cons (Ev.p1 (r := r1.getD i default) (tr _ _ _)) (Ar.cons (Ev.p2 (r := r1.getD i default) (tr _ _ _)) Ar.nil)))⟩
    · rw [picked_all, gsl]
      unfold tris news
      rw [List.map_map]
      apply List.ext_getElem
      · simp
      · intro j h1 h2
        have hj : j < gs.length := by simpa using h1
        simp [hj]
    · refine fin sb2 S11 (hss S3.fx) ?_ hv
      simp only [e, ne_eq, not_false_eq_true, if_true]
  · have e : gs = [] := by
      cases gs with
      | nil => rfl
      | cons _ _ => cases e
    subst e
    simp only [ne_eq, not_true_eq_false, if_false] at fin
    refine s_tuple (s := { s with heap := h3, toks := t3 }) (xs := [("gone", _), ("left", _), ("right", _)]) hA'.hand (fun x hx => ?_) (by decide) (spl_cons hA' (Ev.triAt (Ev.a (nc S3.fx) (lst_sub S3.fx.sub xr)) (nc S3.fx) (by omega) (by omega) (by omega)) fun v4 h4 t4 g4 e4 => spl_cons (s := { s with heap := h4, toks := t4 }) hA' (EvL.tTake (Ev.a (nc (S3.gw g4).fx) (lst_sub (S3.gw g4).fx.sub xr)) (nc (S3.gw g4).fx) (by omega)) fun v5 h5 t5 g5 e5 =>
      spl_cons (s := { s with heap := h5, toks := t5 }) hA' (EvL.tDrop (i := i + n) (Ev.a (nc ((S3.gw g4).gw g5).fx) (lst_sub ((S3.gw g4).gw g5).fx.sub xr)) (Ev.cast (Ev.add (nc ((S3.gw g4).gw g5).fx) (nl ((S3.gw g4).gw g5).fx)) (by omega)) (by omega)) fun v6 h6 t6 g6 e6 => spl_nil ?_)
    · rcases List.mem_cons.mp hx with rfl | hx
      · exact isVar_cell (by rfl)
      · rcases List.mem_cons.mp hx with rfl | hx
        · exact .inl (by rfl)
        · rw [List.mem_singleton.mp hx]; exact .inl (by rfl)
    · obtain ⟨la, rfl, xa5, fa⟩ := e5
      obtain ⟨ra, rfl, xb6, fb⟩ := e6
      have S4 := S3.gw g4
      have S5 := S4.gw g5
      have S6 := S5.gw g6
      obtain ⟨β3, sb3, S6', a3⟩ := S6.rebase
      have xa3 : Lst β3 la (tris (r1.take i)) := lst_base S6 a3 (g6.lst xa5) (S4.fresh fa).1 (fun q => q)
      have xb3 : Lst β3 ra (tris (r1.drop (i + n))) := lst_base S6 a3 xb6 (S5.fresh fb).1 (fun q => q)
      rw [show (i : Int).toNat = i by omega] at e4
      generalize hgone : r1.getD i default = gone at e4 fin
      generalize hleft : r1.take i = left at xa3 fin
      generalize hright : r1.drop (i + n) = right at xb3 fin
      have zl : left.length ≤ 400 := by rw [← hleft]; simp; omega
      have zr : right.length ≤ 400 := by rw [← hright]; simp; omega
      refine ⟨[tv gone, .ref la, .ref ra], _, β3, S6'.fx, rfl, .cons (g6.rep (g5.rep e4)) (.cons rfl (.cons rfl .nil)), fun h7 t7 F7 k7 => ?_⟩
      have S7 := S6'.kp F7 k7
      have X3 := X2.sub sb3
      have sb13 : Sub β1 β3 := fun b o e => sb3 b o (sb2 b o e)
      have hs3 : ∀ {h m}, Fx β3 (dEnv (top 18) qual cd L f) h m → Sub s.heap h := fun F => hss (F.lower sb3)
      refine s_if0 (s := { s with heap := h7, toks := t7 }) hA' S7 (Tr.or2 (Tr.inInts (Ev.p1 (r := gone) (nc S7.fx)) (EvL.ones S7.fx (EvL.tAdd (EvL.tLast (Ev.a (nl S7.fx) (lst_sub S7.fx.sub xa3)) (by omega)).a (EvL.tTake (j := 1) (Ev.a (nl S7.fx) (lst_sub S7.fx.sub xb3)) Ev.int (by omega)).a (by simp; omega)).a (by simp; omega) (by rfl) (by rfl) (by decide)).a) fun _ => Tr.eqNil (EvL.tAdd (Ev.a (nl S7.fx) (lst_sub S7.fx.sub xa3)) (Ev.a (nl S7.fx) (lst_sub S7.fx.sub xb3)) (by omega)).a (EvL.disp Ar.nil (by decide)).a) (fun e h8 t8 S8 _ => ?_) (fun e h8 t8 S8 _ => ?_)
      · refine s_ret (s := { s with heap := h8, toks := t8 }) hA' S8 (EvL.tAdd (Ev.a (nl S8.fx) (lst_sub S8.fx.sub xa3)) (Ev.a (nl S8.fx) (lst_sub S8.fx.sub xb3)) (by omega)) fun v h9 t9 S9 hv => fin sb13 S9 (hs3 S8.fx) ?_ hv
        have : gone.2.1 ∈ cls (left.drop (left.length - 1) ++ right.take 1) ∨ left ++ right = [] := by
          rcases Bool.or_eq_true_iff.mp e with e | e
          · exact .inl (by simpa using e)
          · exact .inr (by simpa [tris] using e)
        rw [if_pos this]
      · have hno : ¬ (gone.2.1 ∈ cls (left.drop (left.length - 1) ++ right.take 1) ∨ left ++ right = []) := by
          rw [Bool.or_eq_false_iff] at e
          rintro (h | h)
          · have := e.1; simp [h] at this
          · have := e.2; simp [h, tris] at this
        rw [if_neg hno] at fin
        refine s_if0 (s := { s with heap := h8, toks := t8 }) hA' S8 (Tr.eqNil (Ev.a (nl S8.fx) (lst_sub S8.fx.sub xa3)) (EvL.disp Ar.nil (by decide)).a) (fun e h9 t9 S9 _ => ?_) (fun e h9 t9 S9 _ => ?_)
        · have e : left = [] := by simpa [tris] using e
          subst e
          have hr0 : 0 < right.length := by
            cases right with
            | nil => exact absurd (.inr rfl) hno
            | cons _ _ => simp
          simp only [if_true] at fin
          refine s_tupleU (s := { s with heap := h9, toks := t9 }) (xs := [("lowest", _), ("old", _)]) hA' S9 (fun x hx => ?_) (by decide) (Ar.cons (Ev.min2 S9.fx X3.bs (by rfl) (X.none _ (by decide)) (Ev.p1 (r := gone) (nc S9.fx)) (Ev.triCl (Ev.a (nl S9.fx) (lst_sub S9.fx.sub xb3)) Ev.int (by omega) (by omega) (by omega))) (Ar.cons (Ev.triCl (Ev.a (nl S9.fx) (lst_sub S9.fx.sub xb3)) Ev.int (by omega) (by omega) (by omega)) Ar.nil)) rfl fun h10 t10 S10 => ?_
          · rcases List.mem_cons.mp hx with rfl | hx
            · exact isVar_cell (by rfl)
            · rw [List.mem_singleton.mp hx]; exact isVar_cell (by rfl)
          · rw [show (0 : Int).toNat = 0 by rfl] at S10
            generalize hold : cl right 0 = old at S10 fin
            generalize hlow : (if old < gone.2.1 then old else gone.2.1) = low at S10 fin
            refine s_ret (s := { s with heap := h10, toks := t10 }) (P := fun v h₀ h' => ∃ l, v = .ref l ∧ Lst h' l (right.map fun r => if (r.2.1 == old) = true then tv (r.1, low, r.2.2 && old == low) else tv r) ∧ h₀.get? l = none) hA' S10 (EvL.compOne (mc := [("lowest", .int low), ("old", .int old)]) (fun r => if (r.2.1 == old) = true then tv (r.1, low, r.2.2 && old == low) else tv r) S10.fx (.cons (by rfl) (.cons (by rfl) .nil)) (Ev.a (nl S10.fx) (lst_sub S10.fx.sub xb3)) (by omega) (by rfl) (by rfl) (by rfl) (by decide) (fun C h11 r hr hC g F11 => ?_)) fun v h11 t11 S11 hv => ?_
            · exact Ev.ifExp (Tr.cmp (Ev.p1 (r := r) (cnl F11)) (cnc F11 (u := .int old)) c_eq) (fun _ => Ev.tri (Ar.cons (Ev.p0 (r := r) (cnl F11)) (Ar.cons (cnc F11 (u := .int low)) (Ar.cons (Ev.and2 (Ev.p2 (r := r) (cnl F11)) fun _ => Ev.cmp (cnc F11 (u := .int old)) (cnc F11 (u := .int low)) c_eq) Ar.nil)))) fun _ => cnl F11
            · refine fin sb13 S11 (hs3 S10.fx) ?_ hv
              rw [map_ite (p := fun r => r.2.1 == old) (f := fun r => (r.1, low, r.2.2 && old == low))]
              simp only [beq_iff_eq]
        · have e : left ≠ [] := fun q => by rw [q] at e; cases e
          have hl0 : 0 < left.length := List.length_pos_iff.mpr e
          rw [if_neg e] at fin
          refine s_assign (s := { s with heap := h9, toks := t9 }) hA' S9 (isVar_cell (by rfl)) (u := .int (cl left (left.length - 1))) (Ev.p1 (r := left.getD (left.length - 1) default) (Ev.last (Ev.a (nl S9.fx) (lst_sub S9.fx.sub xa3)) (tris_last e))) fun h10 t10 S10 => ?_
          generalize cl left (left.length - 1) = old at S10 fin
          refine s_if0 (s := { s with heap := h10, toks := t10 }) hA' S10 (Tr.cmp (Ev.p1 (r := gone) (nc S10.fx)) (nc S10.fx) c_lt) (fun e2 h11 t11 S11 _ => ?_) (fun e2 h11 t11 S11 _ => ?_)
          · have e2 := of_decide_eq_true e2
            rw [if_pos e2] at fin
            refine s_ret (s := { s with heap := h11, toks := t11 }) (P := fun v h₀ h' => ∃ l, v = .ref l ∧ Lst h' l (tris ((left.map fun r => if (r.2.1 == old) = true then (r.1, gone.2.1, false) else r) ++ right)) ∧ h₀.get? l = none) hA' S11 (EvL.tAdd (EvL.of (EvL.compOne (mc := [("gone", tv gone), ("old", .int old)]) (fun r => if (r.2.1 == old) = true then tv (r.1, gone.2.1, false) else tv r) S11.fx (.cons (by rfl) (.cons (by rfl) .nil)) (Ev.a (nl S11.fx) (lst_sub S11.fx.sub xa3)) (by omega) (by rfl) (by rfl) (by rfl) (by decide) (fun C h12 r hr hC g F12 => ?_)) (map_ite (p := fun r => r.2.1 == old) (f := fun r => (r.1, gone.2.1, false)))).a (Ev.a (nl S11.fx) (lst_sub S11.fx.sub xb3)) (by simp; omega)) fun v h12 t12 S12 hv => ?_
            · exact Ev.ifExp (Tr.cmp (Ev.p1 (r := r) (cnl F12)) (cnc F12 (u := .int old)) c_eq) (fun _ => Ev.tri (Ar.cons (Ev.p0 (r := r) (cnl F12)) (Ar.cons (Ev.p1 (r := gone) (cnc F12 (u := tv gone))) (Ar.cons Ev.bool Ar.nil)))) fun _ => cnl F12
            · refine fin sb13 S12 (hs3 S11.fx) ?_ hv
              simp only [beq_iff_eq]
          · have e2 := of_decide_eq_false e2
            rw [if_neg e2] at fin
            exact s_ret (s := { s with heap := h11, toks := t11 }) hA' S11 (EvL.tAdd (Ev.a (nl S11.fx) (lst_sub S11.fx.sub xa3)) (Ev.a (nl S11.fx) (lst_sub S11.fx.sub xb3)) (by omega)) fun v h12 t12 S12 hv => fin sb13 S12 (hs3 S11.fx) rfl hv
end
end Mine

set_option Elab.async false
set_option maxRecDepth 100000
set_option linter.unusedVariables false
set_option autoImplicit false
namespace Mine
open PySem PySem.W PyProof.Rows PySem.Calls PySem.SeqAt

def Wp (p c : Addr) (b : Addr) : Prop := b = p ∨ b = c
/-- the pen -/
def Pn (h : Heap) (p c : Addr) : Prop := ∃ (ns : List Int) (cnt r : Int), Its h p [.ref c, .int cnt, .int r] ∧ Lst h c (ns.map V.int) ∧ ns.length ≤ 63
theorem ints_lst {h h' : Heap} {l : Addr} {us : List V} (x : Lst h l us) (hu : ∀ u ∈ us, ∀ g c b, u ≠ .tri g c b) (k : ∀ o, h.get? l = some o → h'.get? l = some o) : Lst h' l us := by
  obtain ⟨vs, n, e, p⟩ := x
  refine ⟨vs, n, k _ e, ?_⟩
  clear e k
  induction p with
  | nil => exact .nil
  | cons f _ ih => exact .cons (rp_of f (hu _ (.head _)) h') (ih fun u hm => hu u (.tail _ hm))
theorem ints_its {h h' : Heap} {l : Addr} {us : List V} (x : Its h l us) (hu : ∀ u ∈ us, ∀ g c b, u ≠ .tri g c b) (k : ∀ o, h.get? l = some o → h'.get? l = some o) : Its h' l us := by
  obtain ⟨vs, ⟨o, e, c, n, d⟩, p⟩ := x
  refine ⟨vs, ⟨o, k _ e, c, n, d⟩, ?_⟩
  clear e k d
  induction p with
  | nil => exact .nil
  | cons f _ ih => exact .cons (rp_of f (hu _ (.head _)) h') (ih fun u hm => hu u (.tail _ hm))
theorem noTri_ints {ns : List Int} : ∀ u ∈ ns.map V.int, ∀ g c b, u ≠ .tri g c b := fun u hu g c b e => by
  obtain ⟨n, _, rfl⟩ := List.mem_map.mp hu
  cases e
theorem noTri_pen {c : Addr} {x y : Int} : ∀ u ∈ [V.ref c, .int x, .int y], ∀ g c b, u ≠ .tri g c b := fun u hu g c b e => by
  subst e
  simp at hu
theorem Pn.kw {h h' : Heap} {p c : Addr} (x : Pn h p c) (k : KW (Wp p c) h h') : Pn h' p c := by
  obtain ⟨ns, cnt, r, a, b, d⟩ := x
  exact ⟨ns, cnt, r, ints_its a noTri_pen fun o e => k p o (.inl rfl) e, ints_lst b noTri_ints fun o e => k c o (.inr rfl) e, d⟩
theorem Pn.wok {h : Heap} {p c : Addr} (x : Pn h p c) : Wok (Wp p c) h := fun b hb => by
  obtain ⟨ns, cnt, r, a, d, _⟩ := x
  rcases hb with rfl | rfl
  · obtain ⟨vs, ⟨o, e, c, n, q⟩, _⟩ := a
    exact ⟨o, e, .inr ⟨c, _, _, q⟩⟩
  · exact lst_wok d
theorem Pn.ne {h : Heap} {p c : Addr} (x : Pn h p c) : p ≠ c := fun e => by
  obtain ⟨ns, cnt, r, ⟨vs, ⟨o, e1, c1, n, d1⟩, p1⟩, ⟨vs', n', e2, p2⟩, _⟩ := x
  subst e
  rw [e2] at e1
  cases e1
  have : vs = vs' := by
    injection d1 with h3 _
    simpa using h3.symm
  subst this
  cases p1 with
  | cons f _ =>
    cases ns with
    | nil => cases p2
    | cons n ns => cases p2 with
      | cons f' _ => obtain ⟨t, e⟩ := f'; rw [f] at e; cases e

section
variable {prog : Program} {w : World} {k : Nat} {K : Frag} {mg : Str → Option Value} {CI CB : Addr} {β : Heap}

theorem s_setitemV {env : Env} {m : List (Str × V)} {W : Addr → Prop} {I : Heap → Prop} {A : Around} {s : Shared} {Q : Flow → Shared → Prop} {E : Value → Shared → Prop} {rest : List Stmt} {pos : Pos} {value o i : Expr} {p1 : Pos} {l : Addr} {j : Nat} {u : V} {us : List V} (hA : Lv k A) (S : St β W I env s.heap m) (hl : W l)
    (y : Ev prog w k env s.heap value u) (zo : Ev prog w k env s.heap o (.ref l)) (zi : Ev prog w k env s.heap i (.int j)) (xl : Its s.heap l us) (hj : j < us.length) (hz : us.length ≤ 1000)
    (q : ∀ h' t, Its h' l (us.set j u) → (∀ b o, b ≠ l → b ≠ env.locals → s.heap.get? b = some o → h'.get? b = some o) → Fx β env h' m → Wok W h' → wpAny (model prog w) A (execs rest env) Q E { s with heap := h', toks := t })
    (hs : swapsWith value (some (.Subscript o i p1)) pos.line env = pure false := by rfl) :
    wpAny (model prog w) A (execs (.Assign [.Subscript o i p1] value pos :: rest) env) Q E s :=
  s_setitem hA hl (y A hA s .refl _ _ fun v h1 t1 g1 e1 => ⟨u, us, I, m, S.gw g1, e1, g1.its xl, hj, hz, Gr.gw zo g1, Gr.gw zi g1, fun h' t a b c d => q h' t a (fun x o hx hL e => b x o hx hL (g1.keep x o hL e)) c d⟩) hs

theorem draw_ok {A : Around} {s : Shared} {f p c : Addr} {vals : List Value} {R : Result → Shared → Prop} {n : Nat} (T : Tx K mg CI CB β) (hA : Lv (k + 1) A) (D : Df K β (top 14) f) (sub : Sub β s.heap)
    (hp : Paired (Rep s.heap) vals [.ref p, .int n]) (P : Pn s.heap p c) (wp : β.get? p = none) (wc : β.get? c = none) (hn : 1 ≤ n) (hn2 : n ≤ 1000)
    (q : ∀ (d : Nat) h' t tk, d < n → But (Wp p c) s.heap h' → Pn h' p c → R (.ok (.ret (.int d tk))) { s with heap := h', toks := t }) :
    codeAny (model prog w) A (.call (.ref f) ⟨vals, []⟩) R s := by
  refine enterW (W := Wp p c) (I := KW (Wp p c) s.heap) hA T.bs sub (fun b hb => hb.elim (fun e => e ▸ wp) (fun e => e ▸ wc)) P.wok D hp rfl .refl (fun _ _ a b => b.trans a) fun qual cd L h1 t1 β1 E sb up' dn low fL kw S hA' => ?_
  have X := T.sub sb
  have hpc := P.ne
  obtain ⟨ns, cnt, r, xp, xc, hns⟩ := P.kw S.inv
  have oW : ∀ b, Wp p c b → b ≠ (dEnv (top 14) qual cd L f).locals := fun b hb e => (S.out b hb).1 (.inl e)
  refine s_setitemV (us := [.ref c, .int cnt, .int r]) (j := 1) hA' S (.inl rfl) (Ev.add (Ev.itemI (Ev.i (nl S.fx) xp) Ev.int (by decide) (by rfl) (by decide)) Ev.int) (nl S.fx) Ev.int xp (by show 1 < 3; omega) (by show 3 ≤ 1000; omega) fun h2 t2 xp2 k2 F2 ok2 => ?_
  have xp2 : Its h2 p [.ref c, .int (cnt + 1), .int r] := xp2
  have xc2 : Lst h2 c (ns.map V.int) := ints_lst xc noTri_ints fun o e => k2 c o (Ne.symm hpc) (oW c (.inr rfl)) e
  have S2 : St β1 (Wp p c) (KW (Wp p c) h2) (dEnv (top 14) qual cd L f) h2 _ := ⟨F2, S.out, ok2, .refl, fun _ _ a b => b.trans a⟩
  have hen : (ns.map V.int).isEmpty = ns.isEmpty := by cases ns <;> rfl
  refine s_ifJ (s := { s with heap := h2, toks := t2 }) hA' S2 (Tr.and2 (Tr.cmp (Ev.itemI (Ev.i (nl S2.fx) xp2) Ev.int (by decide) (by rfl) (by decide)) Ev.int c_eq) fun _ => Tr.neNil (Ev.a (l := c) (Ev.itemI (Ev.i (nl S2.fx) xp2) Ev.int (by decide) (by rfl) (by decide)) xc2) (EvL.disp Ar.nil (by decide)).a)
    (fun h => Fx β1 (dEnv (top 14) qual cd L f) h ((argsOf (top 14)).zip [.ref p, .int n]) ∧ ∃ (ns : List Int) (r : Int), Its h p [.ref c, .int (cnt + 1), .int r] ∧ Lst h c (ns.map V.int) ∧ ns.length ≤ 63) (fun e h3 t3 S3 g3 => ?_) (fun e h3 S3 g3 => ?_) (fun h4 t4 ⟨F4, ns', r', xp4, xc4, hns'⟩ => ?_)
  · rw [hen, Bool.and_eq_true] at e
    obtain ⟨n0, ns', rfl⟩ : ∃ n0 ns', ns = n0 :: ns' := by
      cases ns with
      | nil => exact absurd e.2 (by decide)
      | cons a b => exact ⟨a, b, rfl⟩
    have xp3 := g3.its xp2
    have xc3 := g3.lst xc2
    refine s_setitem (β := β1) (s := { s with heap := h3, toks := t3 }) (W := Wp p c) (l := p) (j := 2) hA' (.inl rfl) (e_lmeth hA' (Ev.itemI (Ev.i (nl S3.fx) xp3) Ev.int (by decide) (by rfl) (by decide)) xc3 PySem.F.slot_list_pop PySem.F.type_list_pop fun h4 t4 g4 => Ar.run (s := { s with heap := h4, toks := t4 }) hA' (Ar.cons (u := .int 0) Ev.int Ar.nil) fun vs h5 t5 g5 pp => ?_)
    cases pp with
    | cons f1 pp =>
      cases pp
      obtain ⟨tz, rfl⟩ := f1
      have g35 := g4.trans g5
      have hl : ns'.length ≤ 62 := by simpa using hns
      refine c_pop0 (s := { s with heap := h5, toks := t5 }) (u := .int n0) (us := ns'.map V.int) (g35.lst xc3) (by simp; omega) fun v h6 rv xc6 b6 => ?_
      have S5 := S3.gw g35
      obtain ⟨-, F6, ok6⟩ := S5.chg (.inr rfl) .refl b6 _ xc6.isList
      have S6 : St β1 (Wp p c) (KW (Wp p c) h6) (dEnv (top 14) qual cd L f) h6 _ := ⟨F6, S.out, ok6, .refl, fun _ _ a b => b.trans a⟩
      have xp6 : Its h6 p [.ref c, .int (cnt + 1), .int r] := ints_its (g35.its xp3) noTri_pen fun o e => b6 p o hpc e
      refine ⟨.int n0, _, _, _, S6, rv, xp6, by show 2 < 3; omega, by show 3 ≤ 1000; omega, nl S6.fx, Ev.int, fun h7 t7 xp7 k7 F7 ok7 => x_nil ⟨h7, t7, rfl, rfl, F7, ns', n0, xp7, ?_, by omega⟩⟩
      exact ints_lst xc6 noTri_ints fun o e => k7 c o (Ne.symm hpc) (oW c (.inr rfl)) e
  · exact ⟨S3.fx, ns, r, g3.its xp2, g3.lst xc2, hns⟩
  · have P4 : Pn h4 p c := ⟨ns', cnt + 1, r', xp4, xc4, hns'⟩
    have S4 : St β1 (Wp p c) (KW (Wp p c) h4) (dEnv (top 14) qual cd L f) h4 ((argsOf (top 14)).zip [.ref p, .int n]) := ⟨F4, S.out, P4.wok, .refl, fun _ _ a b => b.trans a⟩
    have hn0 : (n : Int) ≠ 0 := by omega
    refine s_assign (s := { s with heap := h4, toks := t4 }) hA' S4 (.inl (by rfl)) (Ev.mod (Ev.intInt S4.fx X.bs (by rfl) (X.none _ (by decide)) (Ev.itemI (Ev.i (nl S4.fx) xp4) Ev.int (by decide) (by rfl) (by decide))) (nl S4.fx) hn0) fun h5 t5 S5 => ?_
    have xp5 : Its h5 p [.ref c, .int (cnt + 1), .int r'] := ints_its xp4 noTri_pen fun o e => S5.inv p o (.inl rfl) e
    have xc5 : Lst h5 c (ns'.map V.int) := ints_lst xc4 noTri_ints fun o e => S5.inv c o (.inr rfl) e
    refine s_setitemV (s := { s with heap := h5, toks := t5 }) (us := [.ref c, .int (cnt + 1), .int r']) (j := 2) hA' S5 (.inl rfl) (Ev.div (Ev.intInt S5.fx X.bs (by rfl) (X.none _ (by decide)) (Ev.itemI (Ev.i (nl S5.fx) xp5) Ev.int (by decide) (by rfl) (by decide))) (nl S5.fx) hn0 (PyProof.noPylong_small (by omega))) (nl S5.fx) Ev.int xp5 (by show 2 < 3; omega) (by show 3 ≤ 1000; omega) fun h6 t6 xp6 k6 F6 ok6 => ?_
    have xp6 : Its h6 p [.ref c, .int (cnt + 1), .int (r'.fdiv n)] := xp6
    have xc6 : Lst h6 c (ns'.map V.int) := ints_lst xc5 noTri_ints fun o e => k6 c o (Ne.symm hpc) (oW c (.inr rfl)) e
    have S6 : St β1 (Wp p c) (KW (Wp p c) h6) (dEnv (top 14) qual cd L f) h6 _ := ⟨F6, S.out, ok6, .refl, fun _ _ a b => b.trans a⟩
    refine s_ret (s := { s with heap := h6, toks := t6 }) hA' S6 (Ev.mod (Ev.add (nl S6.fx) (Ev.itemI (Ev.i (nl S6.fx) xp6) Ev.int (by decide) (by rfl) (by decide))) (nl S6.fx) hn0) fun v h7 t7 S7 hv => ?_
    obtain ⟨tk, rfl⟩ := hv
    have h0 := Int.fmod_nonneg_of_pos (r'.fmod n + (cnt + 1)) (show (0 : Int) < n by omega)
    have h1 := Int.fmod_lt_of_pos (r'.fmod n + (cnt + 1)) (show (0 : Int) < n by omega)
    have P7 : Pn h7 p c := Pn.kw ⟨ns', _, _, xp6, xc6, hns'⟩ S7.inv
    obtain ⟨d, hd⟩ := Int.eq_ofNat_of_zero_le h0
    have := q d h7 t7 tk (by omega) (dn h7 S7.fx.sub) P7
    rwa [← hd] at this
end
end Mine

set_option Elab.async false
set_option maxRecDepth 100000
set_option linter.unusedVariables false
set_option autoImplicit false
namespace Mine
open PySem PySem.W PyProof.Rows PySem.Calls PySem.SeqAt

section
variable {prog : Program} {w : World} {k : Nat} {K : Frag} {mg : Str → Option Value} {CI CB : Addr} {β : Heap}

theorem pick_ok {A : Around} {s : Shared} {f p c sl : Addr} {vals : List Value} {R : Result → Shared → Prop} {xs : List Int} (T : Tx K mg CI CB β) (hA : Lv (k + 2) A) (D : Df K β (top 15) f) (sub : Sub β s.heap)
    (hp : Paired (Rep s.heap) vals [.ref p, .ref sl]) (P : Pn s.heap p c) (wp : β.get? p = none) (wc : β.get? c = none) (xs1 : Lst s.heap sl (xs.map V.int)) (hsl : ¬ Wp p c sl) (hn : 1 ≤ xs.length) (hn2 : xs.length ≤ 1000)
    (q : ∀ (x : Int) h' t tk, x ∈ xs → But (Wp p c) s.heap h' → Pn h' p c → R (.ok (.ret (.int x tk))) { s with heap := h', toks := t }) :
    codeAny (model prog w) A (.call (.ref f) ⟨vals, []⟩) R s := by
  refine enterW (W := Wp p c) (I := KW (Wp p c) s.heap) hA T.bs sub (fun b hb => hb.elim (fun e => e ▸ wp) (fun e => e ▸ wc)) P.wok D hp rfl .refl (fun _ _ a b => b.trans a) fun qual cd L h1 t1 β1 E sb up' dn low fL kw S hA' => ?_
  have X := T.sub sb
  have xl1 : Lst β1 sl (xs.map V.int) := ints_lst xs1 noTri_ints (up' _ · hsl)
  have hlen : (xs.map V.int).length = xs.length := by simp
  refine wpAny_execs_cons (wpAny_Return_some (Subscript_ ((nl S.fx : Ev prog w (k + 1) _ _ _ (.ref sl)) _ hA' _ .refl _ _ fun v h2 t2 g2 e2 => ?_)))
  cases e2
  have S2 := S.gw g2
  obtain ⟨fd, gd, dd⟩ := X.fn 14 (by decide)
  refine e_call (s := { s with heap := h2, toks := t2 }) hA' S2.fx X.bs X.kin (by rfl) gd dd.1 (Ar.cons (u := .ref p) (nl S2.fx) (Ar.cons (Ev.len S2.fx X.bs (by rfl) (X.none _ (by decide)) (Ev.a (nl S2.fx) (lst_sub S2.fx.sub xl1)) (by rw [hlen]; exact hn2)) Ar.nil)) fun vs h3 t3 g3 pp => ?_
  have S3 := S2.gw g3
  rw [hlen] at pp
  refine draw_ok (s := { s with heap := h3, toks := t3 }) X hA' dd S3.fx.sub pp (P.kw S3.inv) (S.out p (.inl rfl)).2 (S.out c (.inr rfl)).2 hn hn2 fun d h4 t4 tk hd b4 P4 => ?_
  have S4 : St β1 (Wp p c) (KW (Wp p c) h4) (dEnv (top 15) qual cd L f) h4 _ := S3.eff b4 P4.wok .refl fun _ _ a b => b.trans a
  have x4 := lst_sub S4.fx.sub xl1
  obtain ⟨vs', il, pp'⟩ := x4.isList
  have hx : (xs.map V.int)[d]? = some (.int (xs[d])) := by simp [hd]
  obtain ⟨v, hv, rv⟩ := paired_get pp' hx
  obtain ⟨t9, rfl⟩ := rv
  exact tail_any (s := { s with heap := h4, toks := t4 }) il.typeIs slot_list_getitem.lookup (wpAny_getItem_list il (by omega) (by omega) (by simpa using hv) (q _ h4 t4 t9 (List.getElem_mem hd) (dn h4 S4.fx.sub) P4)) (by with_unfolding_all rfl)

/-- e[:j] where e is the script -/
theorem EvL.scriptCut {env : Env} {h : Heap} {e hi : Expr} {pos spos : Pos} {l : Addr} {vs : List Value} {ns : List Int} {j : Int} (x : Ev prog w k env h e (.ref l)) (il : h.IsList l vs.toArray) (pi : IntsAre vs ns) (z : Ev prog w k env h hi (.int j)) (hz : ns.length ≤ 1000) :
    EvL prog w k env h (.Subscript e (.Slice none (some hi) none spos) pos) (Mine.cut (ns.map V.int) none (some j)) :=
  fun A hA s g Q E q => Subscript_ (x A hA s g _ _ fun v h1 t1 g1 e1 => by
    cases e1
    show wpAny _ _ (evalPart none env >>= fun l => holding [l] (evalPart (some hi) env) >>= fun u => holding [l, u] (evalPart none env) >>= fun st => newFields "slice" [l, u, st]) _ _ _
    refine wpAny_bind (wpAny_pure (wpAny_bind (wpAny_holding (part_some z A hA { s with heap := h1, toks := t1 } (g.trans g1) _ _ fun v3 h3 t3 g3 p3 => wpAny_bind (wpAny_holding (wpAny_pure ?_))))))
    refine wpAny_newObj_type (?_) (by show (#[Value.none, v3, Value.none].size ≤ _); rw [sizeLine_eq]; simp)
    have gg := (g.trans g1).trans g3
    have il3 := (gg.trans (Gw.push ({ cls := .type "slice", data := .fields #[.none, v3, .none] } : Obj))).list il
    have e := pi.length
    refine tail_any (s := { s with heap := h3.push ({ cls := .type "slice", data := .fields #[.none, v3, .none] } : Obj), toks := t3 }) il3.typeIs list_getitem_lookup
      (wpAny_getItem_list_slice il3 (Heap.IsSliceOf.new ..) .none p3 .none (by simp) (q _ _ t3 ((g1.trans g3).trans ((Gw.push _).trans (Gw.push _))) ⟨_, rfl, ?_, ?_⟩) (by rw [List.size_toArray, sizeLine_eq]; omega)) rfl
    · have hp : Paired (Rep h3) (pickL vs none (some j)) (Mine.cut (ns.map V.int) none (some j)) := by
        unfold pickL Mine.cut
        rw [List.length_map, ← e]
        exact paired_take (paired_drop (of_ints pi) _) _
      rw [pickL_eq]
      exact lst_new (paired_mono (fun _ _ => (Gw.push (L := 0) _).rep) hp)
    · exact (g1.trans g3).fresh ((Gw.push (L := env.locals) _).fresh get_new))

theorem pen_ok {A : Around} {s : Shared} {f sc : Addr} {vals vs : List Value} {ns : List Int} {R : Result → Shared → Prop} (T : Tx K mg CI CB s.heap) (hA : Lv (k + 1) A) (D : Df K s.heap (top 13) f)
    (hp : Paired (Rep s.heap) vals [.ref sc]) (il : s.heap.IsList sc vs.toArray) (pi : IntsAre vs ns) (hz : ns.length ≤ 63)
    (q : ∀ v h' t, Sub s.heap h' → (∃ p c, v = .ref p ∧ s.heap.get? p = none ∧ s.heap.get? c = none ∧ Pn h' p c) → R (.ok (.ret v)) { s with heap := h', toks := t }) :
    codeAny (model prog w) A (.call (.ref f) ⟨vals, []⟩) R s := by
  refine enterW (W := no) (I := fun _ => True) hA T.bs Sub.refl (fun b hb => hb.elim) wok_no D hp rfl trivial (fun _ _ _ x => x) fun qual cd L h1 t1 β1 E sb up' dn low fL kw S hA' => ?_
  have X := T.sub sb
  have il1 : h1.IsList sc vs.toArray := by
    obtain ⟨o, e, c, n, d⟩ := il
    exact ⟨o, S.fx.sub _ _ (sb _ _ e), c, n, d⟩
  have hc : Mine.cut (ns.map V.int) none (some 63) = ns.map V.int := by
    unfold Mine.cut lowOf highOf
    simp only [Option.elim, clip_eq, List.length_map, List.drop_zero, Nat.sub_zero]
    rw [List.take_of_length_le]
    simp
    omega
  have hln : (ns.map V.int).length = ns.length := by simp
  refine wpAny_execs_cons (wpAny_Return_some (List_ (spl_cons hA' (EvL.comp (mc := []) (us := ns.map V.int) (p := fun _ => true) (f := fun i => V.int (2 * (if ns.getD i 0 < 0 then -ns.getD i 0 else ns.getD i 0) + (if decide (ns.getD i 0 < 0) then 1 else 0))) (bind := fun i m => put m "cell" (.int (ns.getD i 0))) S.fx Subm.nil (Src.list (EvA.ww ((EvL.scriptCut (nl S.fx) il1 pi Ev.int (by omega)).of hc).a) Tgt.name) (by rw [hln]; omega)
    ⟨fun i x u e => by (cases e), fun A C i u hA hu => ?_, fun C i h4 hC g F4 hi => ?_⟩ (by rfl) (by decide)) fun v2 h2 t2 g2 e2 => spl_cons (s := { s with heap := h2, toks := t2 }) hA' Ev.int fun v3 h3 t3 g3 e3 => spl_cons (s := { s with heap := h3, toks := t3 }) hA' Ev.int fun v4 h4 t4 g4 e4 => spl_nil ?_)))
  · have hi : i < ns.length := by have := (List.getElem?_eq_some_iff.mp hu).1; rwa [hln] at this
    rw [show V.int (ns.getD i 0) = u by
      rw [List.getElem?_map, List.getElem?_eq_getElem hi] at hu
      cases hu
      rw [List.getD_eq_getElem?_getD, List.getElem?_eq_getElem hi]; rfl]
    exact TkL.name (cloc (by rfl))
  · exact ⟨Te.nil, fun _ => Ev.add (Ev.mul Ev.int (Ev.abs F4 X.bs (cglob (by rfl)) (X.none _ (by decide)) (Ev.intInt F4 X.bs (cglob (by rfl)) (X.none _ (by decide)) (cnl F4))) (PySem.IntMulOk.of_left (by decide +kernel))) (Ev.intBool F4 X.bs (cglob (by rfl)) (X.none _ (by decide)) (Ev.cmp (cnl F4) Ev.int c_lt))⟩
  · obtain ⟨c, rfl, xc2, fc⟩ := e2
    obtain ⟨ta, rfl⟩ := e3
    obtain ⟨tb, rfl⟩ := e4
    have g24 := g3.trans g4
    have xc4 := g24.lst xc2
    rw [picked_all, hln] at xc4
    refine wpAny_newObj_type (s := { s with heap := h4, toks := t4 }) ?_ (by show ([Value.ref c, .int 0 ta, .int 0 tb].toArray).size ≤ sizeLine; rw [sizeLine_eq]; simp)
    have gp : Gw (dEnv (top 13) qual cd L f).locals h4 (h4.push ({ cls := .type "list", data := .seq [Value.ref c, .int 0 ta, .int 0 tb].toArray } : Obj)) := Gw.push _
    have g1p := (g2.trans g24).trans gp
    have S5 := S.gw g1p
    refine q (.ref h4.objs.size) _ t4 (fun b o e => dn _ S5.fx.sub b o (fun q => q) e) ⟨h4.objs.size, c, rfl, ?_, ?_, (List.range ns.length).map (fun i => 2 * (if ns.getD i 0 < 0 then -ns.getD i 0 else ns.getD i 0) + (if decide (ns.getD i 0 < 0) then 1 else 0)), 0, 0, ?_, ?_, by simpa using hz⟩
    · exact no_get (fun b o e => S.fx.sub b o (sb b o e)) ((g2.trans g24).fresh get_new)
    · exact no_get (fun b o e => S.fx.sub b o (sb b o e)) fc
    · exact Lst.isList (us := [.ref c, .int 0, .int 0]) (lst_new (.cons rfl (.cons ⟨ta, rfl⟩ (.cons ⟨tb, rfl⟩ .nil))))
    · rw [List.map_map]
      exact gp.lst xc4
end
end Mine

set_option Elab.async false
set_option maxRecDepth 100000
set_option linter.unusedVariables false
set_option autoImplicit false
namespace Mine

theorem sr_get {F : Tri → Tri} {rw : List Tri} {f : Nat} : ∀ {n : Nat}, f + n ≤ rw.length → ∀ i, (sr F rw f n)[i]? = if f ≤ i ∧ i < f + n then rw[i]?.map F else rw[i]?
  | 0, _, i => by rw [if_neg (by omega)]; rfl
  | n + 1, h, i => by
    have ih := sr_get (F := F) (rw := rw) (f := f) (n := n) (by omega)
    simp only [sr]
    have hl : (sr F rw f n).length = rw.length := sr_length
    have e : (sr F rw f n).getD (f + n) default = rw[f + n]'(by omega) := by
      rw [List.getD_eq_getElem?_getD, ih, if_neg (by omega), List.getElem?_eq_getElem (by omega)]; rfl
    rw [e, List.getElem?_set, ih]
    by_cases hi : f + n = i
    · subst hi
      rw [if_pos rfl, if_pos (by omega), if_pos (by omega), List.getElem?_eq_getElem (by omega)]; rfl
    · rw [if_neg hi]
      by_cases h2 : f ≤ i ∧ i < f + n
      · rw [if_pos h2, if_pos (by omega)]
      · rw [if_neg h2, if_neg (by omega)]
theorem mid_get {F : Tri → Tri} {rw : List Tri} {f g : Nat} (hfg : f ≤ g) (hg : g ≤ rw.length) (i : Nat) : (rw.take f ++ (slice rw f g).map F ++ rw.drop g)[i]? = if f ≤ i ∧ i < g then rw[i]?.map F else rw[i]? := by
  have h1 : (rw.take f).length = f := by simp; omega
  have h2 : ((slice rw f g).map F).length = g - f := by simp [slice]; omega
  by_cases hi : i < f
  · rw [List.append_assoc, List.getElem?_append_left (by omega), if_neg (by omega), List.getElem?_take_of_lt hi]
  · by_cases hi2 : i < g
    · rw [List.append_assoc, List.getElem?_append_right (by omega), List.getElem?_append_left (by omega), if_pos (by omega), h1, List.getElem?_map]
      unfold slice
      rw [List.getElem?_take_of_lt (by omega), List.getElem?_drop, show f + (i - f) = i by omega]
    · rw [List.getElem?_append_right (by simp only [List.length_append]; omega), if_neg (by omega), List.getElem?_drop]
      congr 1
      simp only [List.length_append]
      omega
theorem sr_mid {F : Tri → Tri} {rw : List Tri} {f g : Nat} (hfg : f ≤ g) (hg : g ≤ rw.length) : sr F rw f (g - f) = rw.take f ++ (slice rw f g).map F ++ rw.drop g := by
  apply List.ext_getElem?
  intro i
  rw [sr_get (by omega), mid_get hfg hg, show f + (g - f) = g by omega]

theorem down_ldown {c : Nat → Int} {v : Int} : ∀ {f : Nat}, c f = v → down c f = ldown c v f
  | 0, _ => rfl
  | f + 1, h => by
    simp only [down, ldown, h]
    by_cases e : c f = v
    · rw [if_pos e, if_pos e, down_ldown e]
    · rw [if_neg e, if_neg e]
theorem up_lup {c : Nat → Int} {n : Nat} {v : Int} : ∀ {f b : Nat}, c (b - 1) = v → up c n f b = lup c n v f b
  | 0, b, _ => rfl
  | f + 1, b, h => by
    simp only [up, lup, h]
    by_cases e : b < n ∧ c b = v
    · rw [if_pos e, if_pos e, up_lup (show c (b + 1 - 1) = v from e.2)]
    · rw [if_neg e, if_neg e]
theorem merge_eq {rw : List Tri} {i j : Nat} (hij : i ≤ j) (hj : j ≤ rw.length) : mergeP rw i j = lmergedP rw i j := by
  unfold mergeP lmergedP
  by_cases h : j - i < 2
  · rw [if_pos h, if_pos h]
  · rw [if_neg h, if_neg h, down_ldown rfl, up_lup (v := cl rw (j - 1)) rfl]
    have h1 := ldown_le (c := cl rw) (v := cl rw i) (f := i)
    have h2 := lup_ge (c := cl rw) (n := rw.length) (v := cl rw (j - 1)) (f := rw.length - j) (b := j)
    have h3 := lup_le (c := cl rw) (n := rw.length) (v := cl rw (j - 1)) (f := rw.length - j) (b := j) hj
    exact sr_mid (by omega) h3

theorem least_add {l : List Int} {m : Int} (hl : l ≠ []) (h : ∀ a ∈ l, a ≤ m) : least (l ++ [m]) = least l := by
  refine (least_unique (List.mem_append_left _ (least_mem hl)) fun a ha => ?_).symm
  rcases List.mem_append.mp ha with ha | ha
  · exact least_le ha
  · rw [List.mem_singleton.mp ha]; exact h _ (least_mem hl)
theorem map_id_of {rw : List Tri} {F : Tri → Tri} (h : ∀ r ∈ rw, F r = r) : rw.map F = rw := by
  induction rw with
  | nil => rfl
  | cons a l ih => rw [List.map_cons, h a (.head _), ih fun r hr => h r (.tail _ hr)]
theorem slice_mem {rw : List Tri} {i j : Nat} {r : Tri} (h : r ∈ slice rw i j) : r ∈ rw := List.mem_of_mem_drop (List.mem_of_mem_take h)
theorem slice_parts {rw : List Tri} {i j : Nat} (hij : i ≤ j) : rw.take i ++ slice rw i j ++ rw.drop j = rw := by
  unfold slice
  have : rw.drop j = (rw.drop i).drop (j - i) := by rw [List.drop_drop]; congr 1; omega
  rw [this, List.append_assoc, List.take_append_drop, List.take_append_drop]
theorem hang_eq {rw : List Tri} {i j : Nat} (hij : i < j) (hj : j ≤ rw.length) (hb : ∀ r ∈ rw, r.2.1 ≤ 10 ^ 9) : hangP rw i j = lhungP rw i j := by
  unfold hangP lhungP
  have hne : cls (slice rw i j) ≠ [] := by
    intro e
    have := congrArg List.length e
    simp [cls, slice] at this
    omega
  rw [least_add hne (fun a ha => by
    obtain ⟨r, hr, rfl⟩ := List.mem_map.mp ha
    exact hb r (slice_mem hr))]
  by_cases h : j - i < 2
  · rw [if_pos h, map_id_of, slice_parts (by omega)]
    intro r hr
    have : decide (1 < (j : Int) - i) = false := decide_eq_false (by omega)
    rw [this, Bool.and_false, Bool.or_false]
  · rw [if_neg h, sr_mid (by omega) hj]
    have : decide (1 < (j : Int) - i) = true := decide_eq_true (by omega)
    rw [this]
    simp only [Bool.and_true]
    rfl

structure Ord (R : Int → Int → Prop) : Prop where
  refl : ∀ a, R a a
  trans : ∀ {a b c}, R a b → R b c → R a c
  anti : ∀ {a b}, R a b → R b a → a = b
abbrev Srt (R : Int → Int → Prop) (rw : List Tri) : Prop := rw.Pairwise fun x y => R x.2.1 y.2.1
theorem cl_eq {rw : List Tri} {i : Nat} (h : i < rw.length) : cl rw i = rw[i].2.1 := by
  unfold cl
  rw [List.getD_eq_getElem?_getD, List.getElem?_eq_getElem h]; rfl
theorem srt_cl {R : Int → Int → Prop} {rw : List Tri} (h : Srt R rw) {p q : Nat} (hpq : p < q) (hq : q < rw.length) : R (cl rw p) (cl rw q) := by
  rw [cl_eq (by omega), cl_eq hq]
  exact List.pairwise_iff_getElem.mp h p q (by omega) hq hpq
theorem srt_of {R : Int → Int → Prop} {rw : List Tri} (h : ∀ p q, p < q → q < rw.length → R (cl rw p) (cl rw q)) : Srt R rw :=
  List.pairwise_iff_getElem.mpr fun p q hp hq hpq => by
    have := h p q hpq hq
    rwa [cl_eq hp, cl_eq hq] at this
theorem mid_cl {M : Int} {rw : List Tri} {f g : Nat} (hfg : f ≤ g) (hg : g ≤ rw.length) {i : Nat} (hi : i < rw.length) : cl (rw.take f ++ (slice rw f g).map (sc M) ++ rw.drop g) i = if f ≤ i ∧ i < g then M else cl rw i := by
  unfold cl
  rw [List.getD_eq_getElem?_getD, mid_get hfg hg, List.getD_eq_getElem?_getD, List.getElem?_eq_getElem hi]
  split <;> rfl
theorem mid_srt {R : Int → Int → Prop} (o : Ord R) {rw : List Tri} (h : Srt R rw) {f g k : Nat} (hfg : f ≤ g) (hg : g ≤ rw.length) (hf : f ≤ k) (hk : k < g) : Srt R (rw.take f ++ (slice rw f g).map (sc (cl rw k)) ++ rw.drop g) := by
  have hl : (rw.take f ++ (slice rw f g).map (sc (cl rw k)) ++ rw.drop g).length = rw.length := by simp [slice]; omega
  refine srt_of fun p q hpq hq => ?_
  rw [hl] at hq
  rw [mid_cl hfg hg (by omega), mid_cl hfg hg hq]
  by_cases h1 : f ≤ p ∧ p < g
  · rw [if_pos h1]
    by_cases h2 : f ≤ q ∧ q < g
    · rw [if_pos h2]; exact o.refl _
    · rw [if_neg h2]; exact srt_cl h (by omega) hq
  · rw [if_neg h1]
    by_cases h2 : f ≤ q ∧ q < g
    · rw [if_pos h2]; exact srt_cl h (by omega) (by omega)
    · rw [if_neg h2]; exact srt_cl h hpq hq
theorem least_cl {rw : List Tri} {i j : Nat} (hij : i < j) (hj : j ≤ rw.length) : ∃ k, i ≤ k ∧ k < j ∧ least (cls (slice rw i j)) = cl rw k := by
  have hne : cls (slice rw i j) ≠ [] := by
    intro e
    have := congrArg List.length e
    simp [cls, slice] at this
    omega
  have hm := least_mem hne
  obtain ⟨r, hr, e⟩ := List.mem_map.mp hm
  obtain ⟨n, hn, er⟩ := List.getElem_of_mem hr
  have hl : (slice rw i j).length = j - i := by simp [slice]; omega
  refine ⟨i + n, by omega, by omega, ?_⟩
  rw [← e, ← er, cl_eq (by omega)]
  simp [slice]
theorem merged_srt {R : Int → Int → Prop} (o : Ord R) {rw : List Tri} (h : Srt R rw) {i j : Nat} (hij : i ≤ j) (hj : j ≤ rw.length) : Srt R (lmergedP rw i j) := by
  unfold lmergedP
  by_cases hs : j - i < 2
  · rw [if_pos hs]; exact h
  · rw [if_neg hs]
    obtain ⟨k, hk1, hk2, hk3⟩ := least_cl (rw := rw) (show i < j by omega) hj
    rw [hk3]
    have h1 := ldown_le (c := cl rw) (v := cl rw i) (f := i)
    have h2 := lup_ge (c := cl rw) (n := rw.length) (v := cl rw (j - 1)) (f := rw.length - j) (b := j)
    have h3 := lup_le (c := cl rw) (n := rw.length) (v := cl rw (j - 1)) (f := rw.length - j) (b := j) hj
    exact mid_srt o h (by omega) h3 (by omega) (by omega)
/-- a property of clusters is kept -/
theorem merged_all {P : Int → Prop} {rw : List Tri} (h : ∀ r ∈ rw, P r.2.1) {i j : Nat} (hij : i ≤ j) (hj : j ≤ rw.length) : ∀ r ∈ lmergedP rw i j, P r.2.1 := by
  unfold lmergedP
  by_cases hs : j - i < 2
  · rw [if_pos hs]; exact h
  · rw [if_neg hs]
    obtain ⟨k, hk1, hk2, hk3⟩ := least_cl (rw := rw) (show i < j by omega) hj
    rw [hk3]
    intro r hr
    rcases List.mem_append.mp hr with hr | hr
    · rcases List.mem_append.mp hr with hr | hr
      · exact h r (List.mem_of_mem_take hr)
      · obtain ⟨r', _, rfl⟩ := List.mem_map.mp hr
        show P (cl rw k)
        rw [cl_eq (by omega)]
        exact h _ (List.getElem_mem _)
    · exact h r (List.mem_of_mem_drop hr)
theorem hung_cls {rw : List Tri} {i j : Nat} (hij : i ≤ j) : cls (lhungP rw i j) = cls rw := by
  unfold lhungP cls
  rw [List.map_append, List.map_append, List.map_map]
  have : ((rw.take i).map fun r : Tri => r.2.1) ++ ((slice rw i j).map fun r : Tri => r.2.1) ++ ((rw.drop j).map fun r : Tri => r.2.1) = rw.map fun r => r.2.1 := by
    rw [← List.map_append, ← List.map_append, slice_parts hij]
  exact this
theorem hung_length {rw : List Tri} {i j : Nat} (hij : i ≤ j) : (lhungP rw i j).length = rw.length := by
  have := congrArg List.length (hung_cls (rw := rw) hij)
  simpa [cls] using this
theorem srt_cls {R : Int → Int → Prop} {rw : List Tri} : Srt R rw ↔ (cls rw).Pairwise R := by unfold cls; rw [List.pairwise_map]
theorem all_cls {P : Int → Prop} {rw : List Tri} : (∀ r ∈ rw, P r.2.1) ↔ ∀ c ∈ cls rw, P c :=
  ⟨fun h c hc => by obtain ⟨r, hr, rfl⟩ := List.mem_map.mp hc; exact h r hr, fun h r hr => h _ (List.mem_map.mpr ⟨r, hr, rfl⟩)⟩

/-! put -/
theorem dl_stop {c b : Int} {rw : List Tri} (h : ¬ c < b) : ∀ n, dl c b rw n = rw
  | 0 => rfl
  | n + 1 => by simp only [dl]; rw [if_neg (fun q => h q.1)]
def lowF (c b : Int) (r : Tri) : Tri := if r.2.1 = b then (r.1, c, false) else r
theorem dl_map {R : Int → Int → Prop} (o : Ord R) {c b : Int} (hcb : c < b) : ∀ (n : Nat) (L S : List Tri), L.length = n → Srt R L → (∀ r ∈ L, R r.2.1 b) → dl c b (L ++ S) n = L.map (lowF c b) ++ S
  | 0, L, S, hl, _, _ => by
    have : L = [] := List.length_eq_zero_iff.mp hl
    subst this; rfl
  | n + 1, L, S, hl, hs, hb => by
    obtain ⟨L0, x, rfl⟩ : ∃ L0 x, L = L0 ++ [x] := by
      have hne : L ≠ [] := fun e => by rw [e] at hl; cases hl
      exact ⟨L.dropLast, L.getLast hne, (List.dropLast_concat_getLast hne).symm⟩
    have hl0 : L0.length = n := by simpa using hl
    have hx : cl (L0 ++ [x] ++ S) n = x.2.1 := by
      unfold cl
      rw [List.append_assoc, List.getD_eq_getElem?_getD, List.getElem?_append_right (by omega), hl0]
      simp
    have hxg : (L0 ++ [x] ++ S).getD n default = x := by
      rw [List.append_assoc, List.getD_eq_getElem?_getD, List.getElem?_append_right (by omega), hl0]
      simp
    have hs := List.pairwise_append.mp hs
    simp only [dl]
    rw [hx, hxg]
    by_cases e : x.2.1 = b
    · rw [if_pos ⟨hcb, e⟩]
      have hset : (L0 ++ [x] ++ S).set n (sc c x) = L0 ++ ([sc c x] ++ S) := by
        rw [List.append_assoc, List.set_append_right _ _ (by omega), hl0]
        simp
      rw [hset, dl_map o hcb n L0 _ hl0 hs.1 fun r hr => hb r (List.mem_append_left _ hr)]
      rw [List.map_append, List.append_assoc]
      congr 2
      simp only [List.map_cons, List.map_nil, lowF, e, if_true, sc]
      have : (b == c) = false := beq_false_of_ne (by omega)
      rw [this, Bool.and_false]
    · rw [if_neg fun q => e q.2]
      have : (L0 ++ [x]).map (lowF c b) = L0 ++ [x] := map_id_of fun r hr => by
        unfold lowF
        rw [if_neg]
        intro er
        rcases List.mem_append.mp hr with hr | hr
        · have h1 := hs.2.2 r hr x (.head _)
          rw [er] at h1
          exact e (o.anti (hb x (List.mem_append_right _ (.head _))) h1)
        · rw [List.mem_singleton.mp hr] at er; exact e er
      rw [this]
theorem least_two {a b : Int} : least [a, b] = if b < a then b else a := by
  simp only [least]
  split <;> omega
theorem lup_in {c : Nat → Int} {n : Nat} {v : Int} : ∀ {f b k : Nat}, b ≤ k → k < lup c n v f b → c k = v
  | 0, b, k, h1, h2 => by simp only [lup] at h2; omega
  | f + 1, b, k, h1, h2 => by
    simp only [lup] at h2
    by_cases e : b < n ∧ c b = v
    · rw [if_pos e] at h2
      by_cases hk : k = b
      · rw [hk]; exact e.2
      · exact lup_in (by omega) h2
    · rw [if_neg e] at h2; omega
theorem lup_out {c : Nat → Int} {n : Nat} {v : Int} : ∀ {f b : Nat}, n ≤ b + f → lup c n v f b < n → c (lup c n v f b) ≠ v
  | 0, b, h1, h2 => by simp only [lup] at h2; omega
  | f + 1, b, h1, h2 => by
    simp only [lup] at h2 ⊢
    by_cases e : b < n ∧ c b = v
    · rw [if_pos e] at h2 ⊢
      exact lup_out (by omega) h2
    · rw [if_neg e] at h2 ⊢
      exact fun q => e ⟨h2, q⟩

def lawE (L : List Tri) (g : Tri) (S : List Tri) : List Tri :=
  if g.2.1 ∈ cls (L.drop (L.length - 1) ++ S.take 1) ∨ L ++ S = [] then L ++ S
  else if L = [] then S.map fun r => if r.2.1 = cl S 0 then (r.1, if cl S 0 < g.2.1 then cl S 0 else g.2.1, r.2.2 && cl S 0 == (if cl S 0 < g.2.1 then cl S 0 else g.2.1)) else r
  else if g.2.1 < cl L (L.length - 1) then (L.map fun r => if r.2.1 = cl L (L.length - 1) then (r.1, g.2.1, false) else r) ++ S
  else L ++ S
theorem cl_left {L S : List Tri} {i : Nat} (h : i < L.length) : cl (L ++ S) i = cl L i := by
  unfold cl
  rw [List.getD_eq_getElem?_getD, List.getD_eq_getElem?_getD, List.getElem?_append_left h]
theorem cl_right {L S : List Tri} {i : Nat} : cl (L ++ S) (L.length + i) = cl S i := by
  unfold cl
  rw [List.getD_eq_getElem?_getD, List.getD_eq_getElem?_getD, List.getElem?_append_right (by omega), show L.length + i - L.length = i by omega]
theorem bes_eq {L : List Tri} {g : Tri} {S : List Tri} : besides (L ++ g :: S) L.length = cls (L.drop (L.length - 1) ++ S.take 1) := by
  unfold besides
  rw [cls, List.map_append]
  congr 1
  · by_cases hL : L = []
    · subst hL; rfl
    · have : 0 < L.length := List.length_pos_iff.mpr hL
      rw [if_pos (by omega), cl_left (by omega), cl_eq (by omega)]
      have : L.drop (L.length - 1) = [L[L.length - 1]] := by
        rw [List.drop_eq_getElem_cons (by omega), show L.length - 1 + 1 = L.length by omega, List.drop_length]
      rw [this]; rfl
  · cases S with
    | nil => rw [if_neg (by simp)]; rfl
    | cons s S =>
      rw [if_pos (by simp), cl_right (i := 1)]
      rfl
theorem cut_out {L S : List Tri} {g : Tri} : (L ++ g :: S).take L.length ++ (L ++ g :: S).drop (L.length + 1) = L ++ S := by
  rw [List.take_left', List.drop_append, List.drop_eq_nil_of_le (Nat.le_succ _)]
  · simp
  · rfl
theorem drop_eq {R : Int → Int → Prop} (o : Ord R) {L : List Tri} {g : Tri} {S : List Tri} (h : Srt R (L ++ g :: S)) : (dropP (L ++ g :: S) L.length).take L.length ++ (dropP (L ++ g :: S) L.length).drop (L.length + 1) = lawE L g S := by
  have hc : cl (L ++ g :: S) L.length = g.2.1 := by have := cl_right (L := L) (S := g :: S) (i := 0); rw [Nat.add_zero] at this; rw [this]; rfl
  unfold dropP lawE
  rw [bes_eq, hc]
  have hiff : cls (L.drop (L.length - 1) ++ S.take 1) = [] ↔ L ++ S = [] := by
    constructor
    · intro e
      have e : L.drop (L.length - 1) ++ S.take 1 = [] := by simpa [cls] using e
      obtain ⟨e1, e2⟩ := List.append_eq_nil_iff.mp e
      have h1 := List.drop_eq_nil_iff.mp e1
      have h2 : L = [] := List.length_eq_zero_iff.mp (by omega)
      have h3 : S = [] := by
        cases S with
        | nil => rfl
        | cons s S => cases e2
      rw [h2, h3]; rfl
    · intro e
      rw [List.append_eq_nil_iff] at e
      rw [e.1, e.2]; rfl
  have hor : (g.2.1 ∈ cls (L.drop (L.length - 1) ++ S.take 1) ∨ cls (L.drop (L.length - 1) ++ S.take 1) = []) ↔ (g.2.1 ∈ cls (L.drop (L.length - 1) ++ S.take 1) ∨ L ++ S = []) := or_congr Iff.rfl hiff
  by_cases h1 : g.2.1 ∈ cls (L.drop (L.length - 1) ++ S.take 1) ∨ L ++ S = []
  · rw [if_pos (hor.mpr h1), if_pos h1, cut_out]
  · rw [if_neg (fun q => h1 (hor.mp q)), if_neg h1]
    by_cases hL : L = []
    · subst hL
      rw [if_neg (by simp), if_pos rfl]
      have hS : 0 < S.length := by
        cases S with
        | nil => exact absurd (.inr rfl) h1
        | cons _ _ => simp
      have hc1 : ∀ i, cl (g :: S) (i + 1) = cl S i := fun i => rfl
      show (mergeP (g :: S) 0 2).take 0 ++ (mergeP (g :: S) 0 2).drop 1 = _
      rw [List.take_zero, List.nil_append, merge_eq (by omega) (by simp; omega)]
      unfold lmergedP
      rw [if_neg (by omega)]
      have hB2 := lup_ge (c := cl (g :: S)) (n := (g :: S).length) (v := cl (g :: S) (2 - 1)) (f := (g :: S).length - 2) (b := 2)
      have hBl := lup_le (c := cl (g :: S)) (n := (g :: S).length) (v := cl (g :: S) (2 - 1)) (f := (g :: S).length - 2) (b := 2) (by simp; omega)
      have hin : ∀ k, 2 ≤ k → k < lup (cl (g :: S)) (g :: S).length (cl (g :: S) (2 - 1)) ((g :: S).length - 2) 2 → cl (g :: S) k = cl (g :: S) (2 - 1) := fun k => lup_in
      have hout := lup_out (c := cl (g :: S)) (n := (g :: S).length) (v := cl (g :: S) (2 - 1)) (f := (g :: S).length - 2) (b := 2) (by omega)
      generalize lup (cl (g :: S)) (g :: S).length (cl (g :: S) (2 - 1)) ((g :: S).length - 2) 2 = B at *
      have hM : least (cls (slice (g :: S) 0 2)) = if cl S 0 < g.2.1 then cl S 0 else g.2.1 := by
        obtain ⟨s, S', rfl⟩ : ∃ s S', S = s :: S' := by
          cases S with
          | nil => cases hS
          | cons s S' => exact ⟨s, S', rfl⟩
        exact least_two
      rw [hM]
      generalize (if cl S 0 < g.2.1 then cl S 0 else g.2.1) = M
      have hv : cl (g :: S) (2 - 1) = cl S 0 := rfl
      rw [hv] at hin hout
      apply List.ext_getElem?
      intro i
      rw [List.getElem?_drop]
      have hmid := mid_get (F := sc M) (rw := g :: S) (f := ldown (cl (g :: S)) (cl (g :: S) 0) 0) (g := B) (Nat.zero_le _) hBl (1 + i)
      rw [hmid]
      have e1 : (g :: S)[1 + i]? = S[i]? := by rw [show 1 + i = i + 1 by omega]; rfl
      rw [e1, List.getElem?_map]
      show (if 0 ≤ 1 + i ∧ 1 + i < B then _ else _) = _
      by_cases hi : i < S.length
      · rw [List.getElem?_eq_getElem hi]
        have hci : S[i].2.1 = cl (g :: S) (i + 1) := by rw [hc1, cl_eq hi]
        by_cases hb : 1 + i < B
        · rw [if_pos ⟨by omega, hb⟩]
          have : S[i].2.1 = cl S 0 := by
            rw [hci]
            cases i with
            | zero => rfl
            | succ i => exact hin _ (by omega) (by omega)
          simp only [Option.map_some, this, if_true, sc]
        · rw [if_neg (by omega)]
          have : ¬ S[i].2.1 = cl S 0 := fun e => by
            have hBn : B < (g :: S).length := by simp; omega
            have h2 := hout hBn
            have r1 : R (cl (g :: S) 1) (cl (g :: S) B) := srt_cl h (by omega) hBn
            have r2 : R (cl (g :: S) B) (cl (g :: S) 1) := by
              have e' : cl (g :: S) (i + 1) = cl (g :: S) 1 := by rw [← hci, e]; rfl
              by_cases hBi : B = i + 1
              · rw [hBi, e']; exact o.refl _
              · have : R (cl (g :: S) B) (cl (g :: S) (i + 1)) := srt_cl h (p := B) (q := i + 1) (by omega) (by simp; omega)
                rwa [e'] at this
            exact h2 (o.anti r2 r1)
          simp only [Option.map_some, this, if_false]
      · rw [List.getElem?_eq_none (by omega)]
        split <;> rfl
    · have hl : 0 < L.length := List.length_pos_iff.mpr hL
      rw [if_pos hl, if_neg hL, cl_left (by omega)]
      have hb : ∀ r ∈ L, R r.2.1 (cl L (L.length - 1)) := fun r hr => by
        obtain ⟨k, hk, rfl⟩ := List.getElem_of_mem hr
        rw [← cl_eq hk]
        by_cases e : k = L.length - 1
        · rw [e]; exact o.refl _
        · exact srt_cl (List.pairwise_append.mp h).1 (by omega) (by omega)
      by_cases hlt : g.2.1 < cl L (L.length - 1)
      · rw [if_pos hlt, dl_map o hlt L.length L (g :: S) rfl (List.pairwise_append.mp h).1 hb]
        have := cut_out (L := L.map (lowF g.2.1 (cl L (L.length - 1)))) (S := S) (g := g)
        rw [List.length_map] at this
        rw [this]
        rfl
      · rw [if_neg hlt, dl_stop hlt, cut_out]
theorem put_eq {R : Int → Int → Prop} (o : Ord R) {rw : List Tri} (h : Srt R rw) {a n : Nat} {gs : List Int} (hn : 1 ≤ n) (ha : a + n ≤ rw.length) : putP rw a n gs = lputP rw a n gs := by
  unfold putP lputP
  rw [merge_eq (by omega) ha]
  have hs := merged_srt o h (i := a) (j := a + n) (by omega) ha
  have hl : (lmergedP rw a (a + n)).length = rw.length := lmergedP_length (by omega) ha
  generalize lmergedP rw a (a + n) = r1 at hs hl
  by_cases hg : gs = []
  · subst hg
    simp only [if_true, ne_eq, not_true_eq_false, if_false]
    have hal : a < r1.length := by omega
    have e1 : r1.take (a + 1) = r1.take a ++ [r1.getD a default] := by
      rw [List.take_add_one, List.getD_eq_getElem?_getD, List.getElem?_eq_getElem hal]; rfl
    have e2 : r1.take (a + 1) ++ r1.drop (a + n) = r1.take a ++ r1.getD a default :: r1.drop (a + n) := by rw [e1, List.append_assoc]; rfl
    have hs2 : Srt R (r1.take (a + 1) ++ r1.drop (a + n)) := by
      have hsub : (r1.take (a + 1) ++ r1.drop (a + n)).Sublist r1 := by
        have : (r1.drop (a + n)).Sublist (r1.drop (a + 1)) := by
          rw [show a + n = a + 1 + (n - 1) by omega, ← List.drop_drop]
          exact List.drop_sublist _ _
        exact (List.Sublist.append_left this (r1.take (a + 1))).trans (by rw [List.take_append_drop]; exact List.Sublist.refl _)
      exact hs.sublist hsub
    rw [e2] at hs2 ⊢
    have hla : (r1.take a).length = a := by simp; omega
    have := drop_eq o hs2
    rw [hla] at this
    rw [this]
    unfold lawE
    rw [hla]
  · rw [if_neg hg, if_pos hg]
end Mine

set_option Elab.async false
set_option maxRecDepth 100000
set_option linter.unusedVariables false
set_option autoImplicit false
namespace Mine

theorem srt_mid {R : Int → Int → Prop} {L : List Tri} {g : Tri} {S : List Tri} (h : Srt R (L ++ g :: S)) : Srt R L ∧ Srt R S ∧ (∀ x ∈ L, R x.2.1 g.2.1) ∧ (∀ z ∈ S, R g.2.1 z.2.1) ∧ ∀ x ∈ L, ∀ z ∈ S, R x.2.1 z.2.1 := by
  obtain ⟨h1, h2, h3⟩ := List.pairwise_append.mp h
  obtain ⟨h4, h5⟩ := List.pairwise_cons.mp h2
  exact ⟨h1, h5, fun x hx => h3 x hx g (.head _), h4, fun x hx z hz => h3 x hx z (.tail _ hz)⟩
theorem news_srt {R : Int → Int → Prop} (o : Ord R) {L : List Tri} {g : Tri} {S : List Tri} (h : Srt R (L ++ g :: S)) (gs : List Int) : Srt R (L ++ news gs g ++ S) := by
  obtain ⟨h1, h2, h3, h4, h5⟩ := srt_mid h
  have hn : ∀ y ∈ news gs g, y.2.1 = g.2.1 := fun y hy => by
    obtain ⟨x, _, rfl⟩ := List.mem_map.mp hy
    rfl
  refine List.pairwise_append.mpr ⟨List.pairwise_append.mpr ⟨h1, ?_, fun x hx y hy => by rw [hn y hy]; exact h3 x hx⟩, h2, fun x hx z hz => ?_⟩
  · unfold news
    rw [List.pairwise_map]
    exact List.pairwise_of_forall fun x y => o.refl _
  · rcases List.mem_append.mp hx with hx | hx
    · exact h5 x hx z hz
    · rw [hn x hx]; exact h4 z hz
theorem pairwise_map_mem {R : Int → Int → Prop} {F : Tri → Tri} : ∀ {L : List Tri}, Srt R L → (∀ x ∈ L, ∀ y ∈ L, R x.2.1 y.2.1 → R (F x).2.1 (F y).2.1) → Srt R (L.map F)
  | [], _, _ => .nil
  | a :: L, h, hF => by
    obtain ⟨h1, h2⟩ := List.pairwise_cons.mp h
    rw [List.map_cons]
    refine List.pairwise_cons.mpr ⟨fun y hy => ?_, pairwise_map_mem h2 fun x hx y hy => hF x (.tail _ hx) y (.tail _ hy)⟩
    obtain ⟨z, hz, rfl⟩ := List.mem_map.mp hy
    exact hF a (.head _) z (.tail _ hz) (h1 z hz)
theorem sub_out {L : List Tri} {g : Tri} {S : List Tri} : (L ++ S).Sublist (L ++ g :: S) := List.Sublist.append_left (List.sublist_cons_self g S) L
theorem lawE_srt {R : Int → Int → Prop} (o : Ord R) {L : List Tri} {g : Tri} {S : List Tri} (h : Srt R (L ++ g :: S)) : Srt R (lawE L g S) := by
  obtain ⟨h1, h2, h3, h4, h5⟩ := srt_mid h
  have hLS : Srt R (L ++ S) := h.sublist sub_out
  unfold lawE
  split
  · exact hLS
  · rename_i hno
    split
    · rename_i hL
      subst hL
      have hS : 0 < S.length := by
        cases S with
        | nil => exact absurd (.inr rfl) hno
        | cons _ _ => simp
      have hhead : ∀ z ∈ S, R (cl S 0) z.2.1 := fun z hz => by
        obtain ⟨k, hk, rfl⟩ := List.getElem_of_mem hz
        rw [← cl_eq hk]
        by_cases e : k = 0
        · rw [e]; exact o.refl _
        · exact srt_cl h2 (by omega) hk
      have hlow : ∀ z ∈ S, R (if cl S 0 < g.2.1 then cl S 0 else g.2.1) z.2.1 := fun z hz => by
        split
        · exact hhead z hz
        · exact h4 z hz
      refine pairwise_map_mem h2 fun x hx y hy hr => ?_
      by_cases e1 : x.2.1 = cl S 0
      · by_cases e2 : y.2.1 = cl S 0
        · rw [if_pos e1, if_pos e2]; exact o.refl _
        · rw [if_pos e1, if_neg e2]; exact hlow y hy
      · by_cases e2 : y.2.1 = cl S 0
        · exact absurd (o.anti (e2 ▸ hr) (hhead x hx)) e1
        · rw [if_neg e1, if_neg e2]; exact hr
    · rename_i hL
      have hl : 0 < L.length := List.length_pos_iff.mpr hL
      split
      · have hlast : ∀ r ∈ L, R r.2.1 (cl L (L.length - 1)) := fun r hr => by
          obtain ⟨k, hk, rfl⟩ := List.getElem_of_mem hr
          rw [← cl_eq hk]
          by_cases e : k = L.length - 1
          · rw [e]; exact o.refl _
          · exact srt_cl h1 (by omega) (by omega)
        refine List.pairwise_append.mpr ⟨pairwise_map_mem h1 fun x hx y hy hr => ?_, h2, fun x hx z hz => ?_⟩
        · by_cases e1 : x.2.1 = cl L (L.length - 1)
          · by_cases e2 : y.2.1 = cl L (L.length - 1)
            · rw [if_pos e1, if_pos e2]; exact o.refl _
            · exact absurd (o.anti (hlast y hy) (e1 ▸ hr)) e2
          · by_cases e2 : y.2.1 = cl L (L.length - 1)
            · rw [if_neg e1, if_pos e2]; exact h3 x hx
            · rw [if_neg e1, if_neg e2]; exact hr
        · obtain ⟨y, hy, rfl⟩ := List.mem_map.mp hx
          split
          · exact h4 z hz
          · exact h5 y hy z hz
      · exact hLS
theorem lawE_all {P : Int → Prop} {L : List Tri} {g : Tri} {S : List Tri} (h : ∀ r ∈ L ++ g :: S, P r.2.1) : ∀ r ∈ lawE L g S, P r.2.1 := by
  have hLS : ∀ r ∈ L ++ S, P r.2.1 := fun r hr => h r (sub_out.subset hr)
  have hg : P g.2.1 := h g (List.mem_append_right _ (.head _))
  unfold lawE
  split
  · exact hLS
  · rename_i hno
    split
    · rename_i hL
      subst hL
      have hS : 0 < S.length := by
        cases S with
        | nil => exact absurd (.inr rfl) hno
        | cons _ _ => simp
      intro r hr
      obtain ⟨y, hy, rfl⟩ := List.mem_map.mp hr
      split
      · show P (if _ then _ else _)
        split
        · rw [cl_eq hS]; exact hLS _ (List.getElem_mem hS)
        · exact hg
      · exact hLS y hy
    · split
      · intro r hr
        rcases List.mem_append.mp hr with hr | hr
        · obtain ⟨y, hy, rfl⟩ := List.mem_map.mp hr
          split
          · exact hg
          · exact hLS y (List.mem_append_left _ hy)
        · exact hLS r (List.mem_append_right _ hr)
      · exact hLS
theorem lawE_length {L : List Tri} {g : Tri} {S : List Tri} : (lawE L g S).length = L.length + S.length := by
  unfold lawE
  split
  · simp
  · split
    · rename_i h; subst h; simp
    · split <;> simp

theorem put_parts {r1 : List Tri} {a n : Nat} (hn : 1 ≤ n) (ha : a + n ≤ r1.length) : (r1.take a ++ r1.getD a default :: r1.drop (a + n)).Sublist r1 := by
  have e1 : r1.take (a + 1) = r1.take a ++ [r1.getD a default] := by
    rw [List.take_add_one, List.getD_eq_getElem?_getD, List.getElem?_eq_getElem (by omega)]; rfl
  have e2 : r1.take (a + 1) ++ r1.drop (a + n) = r1.take a ++ r1.getD a default :: r1.drop (a + n) := by rw [e1, List.append_assoc]; rfl
  rw [← e2]
  have : (r1.drop (a + n)).Sublist (r1.drop (a + 1)) := by
    rw [show a + n = a + 1 + (n - 1) by omega, ← List.drop_drop]
    exact List.drop_sublist _ _
  exact (List.Sublist.append_left this (r1.take (a + 1))).trans (by rw [List.take_append_drop]; exact List.Sublist.refl _)
theorem lputP_eq {rw : List Tri} {a n : Nat} {gs : List Int} : lputP rw a n gs = if gs ≠ [] then (lmergedP rw a (a + n)).take a ++ news gs ((lmergedP rw a (a + n)).getD a default) ++ (lmergedP rw a (a + n)).drop (a + n)
    else lawE ((lmergedP rw a (a + n)).take a) ((lmergedP rw a (a + n)).getD a default) ((lmergedP rw a (a + n)).drop (a + n)) := rfl
theorem put_srt {R : Int → Int → Prop} (o : Ord R) {rw : List Tri} (h : Srt R rw) {a n : Nat} {gs : List Int} (hn : 1 ≤ n) (ha : a + n ≤ rw.length) : Srt R (lputP rw a n gs) := by
  have hl : (lmergedP rw a (a + n)).length = rw.length := lmergedP_length (by omega) ha
  have hs := (merged_srt o h (i := a) (j := a + n) (by omega) ha).sublist (put_parts (a := a) hn (by omega))
  rw [lputP_eq]
  split
  · exact news_srt o hs gs
  · exact lawE_srt o hs
theorem put_all {P : Int → Prop} {rw : List Tri} (h : ∀ r ∈ rw, P r.2.1) {a n : Nat} {gs : List Int} (hn : 1 ≤ n) (ha : a + n ≤ rw.length) : ∀ r ∈ lputP rw a n gs, P r.2.1 := by
  have hl : (lmergedP rw a (a + n)).length = rw.length := lmergedP_length (by omega) ha
  have hs : ∀ r ∈ ((lmergedP rw a (a + n)).take a ++ (lmergedP rw a (a + n)).getD a default :: (lmergedP rw a (a + n)).drop (a + n)), P r.2.1 := fun r hr => merged_all h (i := a) (j := a + n) (by omega) ha r ((put_parts (a := a) hn (by omega)).subset hr)
  rw [lputP_eq]
  split
  · intro r hr
    rcases List.mem_append.mp hr with hr | hr
    · rcases List.mem_append.mp hr with hr | hr
      · exact hs r (List.mem_append_left _ hr)
      · obtain ⟨y, _, rfl⟩ := List.mem_map.mp hr
        exact hs ((lmergedP rw a (a + n)).getD a default) (List.mem_append_right _ (.head _))
    · exact hs r (List.mem_append_right _ (.tail _ hr))
  · exact lawE_all hs
theorem put_length {rw : List Tri} {a n : Nat} {gs : List Int} (hn : 1 ≤ n) (ha : a + n ≤ rw.length) : (lputP rw a n gs).length + 1 ≤ rw.length + gs.length + 1 := by
  have hl : (lmergedP rw a (a + n)).length = rw.length := lmergedP_length (by omega) ha
  rw [lputP_eq]
  split
  · simp [news]; omega
  · rw [lawE_length]; simp; omega

/-! spread -/
def markIn (rw : List Tri) (c : Int) : Bool := rw.any fun r => r.2.2 && r.2.1 == c
def spF (rw : List Tri) (r : Tri) : Tri := (r.1, r.2.1, markIn rw r.2.1)
theorem perm_sorted {R : Int → Int → Prop} (o : Ord R) : ∀ {l l' : List Int}, l'.Perm l → l'.Pairwise R → l.Pairwise R → l' = l
  | [], l', p, _, _ => p.eq_nil
  | a :: l, l', p, h', h => by
    cases l' with
    | nil => exact absurd p.length_eq (by simp)
    | cons b l' =>
      obtain ⟨h1, h2⟩ := List.pairwise_cons.mp h
      obtain ⟨h1', h2'⟩ := List.pairwise_cons.mp h'
      have ea : a = b := by
        have hb : b ∈ a :: l := p.subset (.head _)
        have ha : a ∈ b :: l' := p.symm.subset (.head _)
        rcases List.mem_cons.mp hb with e | hb
        · exact e.symm
        · rcases List.mem_cons.mp ha with e | ha
          · exact e
          · exact o.anti (h1 b hb) (h1' a ha)
      subst ea
      rw [perm_sorted o (List.perm_cons a |>.mp p) h2' h2]

theorem not_end {rw : List Tri} {k : Nat} (hk : k < rw.length) (h : k + 1 ∉ endsP rw) : k + 1 < rw.length ∧ cl rw (k + 1) = cl rw k := by
  unfold endsP at h
  rw [List.mem_map] at h
  have h2 : ¬ ((decide (k + 1 = rw.length) || cl rw (k + 1) != cl rw k) = true) := fun e => h ⟨k, List.mem_filter.mpr ⟨List.mem_range.mpr hk, e⟩, rfl⟩
  simp only [Bool.or_eq_true, decide_eq_true_eq, bne_iff_ne, ne_eq] at h2
  refine ⟨?_, ?_⟩
  · have : k + 1 ≠ rw.length := fun e => h2 (.inl e)
    omega
  · by_cases e : cl rw (k + 1) = cl rw k
    · exact e
    · exact absurd (.inr e) h2
theorem is_end {rw : List Tri} {e : Nat} (h : e ∈ endsP rw) : 1 ≤ e ∧ e ≤ rw.length ∧ (e = rw.length ∨ cl rw e ≠ cl rw (e - 1)) := by
  have hb := ends_le h
  unfold endsP at h
  obtain ⟨k, hk, rfl⟩ := List.mem_map.mp h
  have := (List.mem_filter.mp hk).2
  simp only [Bool.or_eq_true, decide_eq_true_eq, bne_iff_ne, ne_eq] at this
  exact ⟨hb.1, hb.2, this⟩
/-- the group between two ends -/
theorem group {rw : List Tri} {i : Nat} (hi : i < (endsP rw).length) : bg (endsP rw) i < (endsP rw).getD i 0 ∧ (endsP rw).getD i 0 ≤ rw.length ∧
    (∀ k, bg (endsP rw) i ≤ k → k < (endsP rw).getD i 0 → cl rw k = cl rw (bg (endsP rw) i)) ∧
    ((endsP rw).getD i 0 = rw.length ∨ cl rw ((endsP rw).getD i 0) ≠ cl rw ((endsP rw).getD i 0 - 1)) ∧
    (bg (endsP rw) i = 0 ∨ cl rw (bg (endsP rw) i) ≠ cl rw (bg (endsP rw) i - 1)) := by
  have e : (endsP rw).getD i 0 = (endsP rw)[i] := by rw [List.getD_eq_getElem?_getD, List.getElem?_eq_getElem hi]; rfl
  have hm : (endsP rw).getD i 0 ∈ endsP rw := by rw [e]; exact List.getElem_mem hi
  obtain ⟨e1, e2, e3⟩ := is_end hm
  have hlt : bg (endsP rw) i < (endsP rw).getD i 0 := by
    cases i with
    | zero => show 0 < _; omega
    | succ i =>
      have h' : i < (endsP rw).length := by omega
      show (endsP rw).getD i 0 < _
      rw [e, show (endsP rw).getD i 0 = (endsP rw)[i] by rw [List.getD_eq_getElem?_getD, List.getElem?_eq_getElem h']; rfl]
      exact List.pairwise_iff_getElem.mp ends_pair i (i + 1) h' hi (Nat.lt_succ_self i)
  refine ⟨hlt, e2, ?_, e3, ?_⟩
  · have key : ∀ d k, k = bg (endsP rw) i + d → k < (endsP rw).getD i 0 → cl rw k = cl rw (bg (endsP rw) i) := by
      intro d
      induction d with
      | zero => intro k hk _; rw [hk]; rfl
      | succ d ih =>
        intro k hk hk2
        have hno : bg (endsP rw) i + d + 1 ∉ endsP rw := fun hm2 => by
          obtain ⟨j, hj, ej⟩ := List.getElem_of_mem hm2
          have hji : j < i := by
            by_cases hji : j < i
            · exact hji
            · have : (endsP rw)[i] ≤ (endsP rw)[j] := by
                by_cases hij : i = j
                · subst hij; exact Nat.le_refl _
                · exact Nat.le_of_lt (List.pairwise_iff_getElem.mp ends_pair i j hi hj (by omega))
              omega
          cases i with
          | zero => omega
          | succ i =>
            have h' : i < (endsP rw).length := by omega
            have hb : bg (endsP rw) (i + 1) = (endsP rw)[i] := by show (endsP rw).getD i 0 = _; rw [List.getD_eq_getElem?_getD, List.getElem?_eq_getElem h']; rfl
            have : (endsP rw)[j] ≤ (endsP rw)[i] := by
              by_cases hij : j = i
              · subst hij; exact Nat.le_refl _
              · exact Nat.le_of_lt (List.pairwise_iff_getElem.mp ends_pair j i hj h' (by omega))
            omega
        have := (not_end (rw := rw) (k := bg (endsP rw) i + d) (by omega) hno).2
        rw [hk, show bg (endsP rw) i + (d + 1) = bg (endsP rw) i + d + 1 by omega, this]
        exact ih _ rfl (by omega)
    intro k h1 h2
    exact key (k - bg (endsP rw) i) k (by omega) h2
  · cases i with
    | zero => exact .inl rfl
    | succ i =>
      have h' : i < (endsP rw).length := by omega
      have hb : bg (endsP rw) (i + 1) = (endsP rw)[i] := by show (endsP rw).getD i 0 = _; rw [List.getD_eq_getElem?_getD, List.getElem?_eq_getElem h']; rfl
      have := (is_end (List.getElem_mem h' : (endsP rw)[i] ∈ endsP rw)).2.2
      rw [← hb] at this
      rcases this with h | h
      · omega
      · exact .inr h
theorem last_bg {rw : List Tri} : bg (endsP rw) (endsP rw).length = rw.length := by
  by_cases h : rw = []
  · subst h; rfl
  · have hl : 0 < rw.length := List.length_pos_iff.mpr h
    have hm : rw.length ∈ endsP rw := by
      unfold endsP
      refine List.mem_map.mpr ⟨rw.length - 1, List.mem_filter.mpr ⟨List.mem_range.mpr (by omega), ?_⟩, by omega⟩
      simp only [Bool.or_eq_true, decide_eq_true_eq]
      exact .inl (by omega)
    obtain ⟨j, hj, ej⟩ := List.getElem_of_mem hm
    obtain ⟨n, hn⟩ : ∃ n, (endsP rw).length = n + 1 := ⟨(endsP rw).length - 1, by omega⟩
    rw [hn]
    show (endsP rw).getD n 0 = _
    have hn' : n < (endsP rw).length := by omega
    rw [List.getD_eq_getElem?_getD, List.getElem?_eq_getElem hn']
    show (endsP rw)[n] = _
    have h1 := (ends_le (List.getElem_mem hn')).2
    by_cases hjn : j = n
    · subst hjn; exact ej
    · have := List.pairwise_iff_getElem.mp ends_pair j n hj hn' (by omega)
      omega
theorem mark_iff {rw : List Tri} {c : Int} : markIn rw c = true ↔ ∃ k, k < rw.length ∧ cl rw k = c ∧ (rw.getD k default).2.2 = true := by
  unfold markIn
  rw [List.any_eq_true]
  constructor
  · rintro ⟨r, hr, h⟩
    simp only [Bool.and_eq_true, beq_iff_eq] at h
    obtain ⟨k, hk, rfl⟩ := List.getElem_of_mem hr
    refine ⟨k, hk, ?_, ?_⟩
    · rw [cl_eq hk]; exact h.2
    · rw [List.getD_eq_getElem?_getD, List.getElem?_eq_getElem hk]; exact h.1
  · rintro ⟨k, hk, h1, h2⟩
    refine ⟨rw[k], List.getElem_mem hk, ?_⟩
    rw [cl_eq hk] at h1
    rw [List.getD_eq_getElem?_getD, List.getElem?_eq_getElem hk] at h2
    simp only [Bool.and_eq_true, beq_iff_eq]
    exact ⟨h2, h1⟩
theorem spread_state {R : Int → Int → Prop} (o : Ord R) {rw : List Tri} (h : Srt R rw) : ∀ {i : Nat}, i ≤ (endsP rw).length → ∀ k, (spreadS rw (endsP rw) i)[k]? = if k < bg (endsP rw) i then rw[k]?.map (spF rw) else rw[k]?
  | 0, _, k => by rw [if_neg (by show ¬ k < 0; omega)]; rfl
  | i + 1, hi, k => by
    have ih := spread_state o h (i := i) (by omega)
    obtain ⟨g1, g2, g3, g4, g5⟩ := group (rw := rw) (i := i) (by omega)
    have hbg : bg (endsP rw) (i + 1) = (endsP rw).getD i 0 := rfl
    have hlen : (spreadS rw (endsP rw) i).length = rw.length := spreadS_length
    rw [hbg]
    simp only [spreadS]
    generalize (endsP rw).getD i 0 = e at *
    generalize bg (endsP rw) i = b at *
    generalize hcur : spreadS rw (endsP rw) i = cur at *
    -- the clusters outside of the group are others
    have hout : ∀ q, q < rw.length → cl rw q = cl rw b → b ≤ q ∧ q < e := fun q hq hc => by
      refine ⟨?_, ?_⟩
      · by_cases hbq : b ≤ q
        · exact hbq
        · rcases g5 with g5 | g5
          · omega
          · by_cases hq2 : q = b - 1
            · rw [hq2] at hc; exact absurd hc.symm g5
            · have r1 := srt_cl h (p := q) (q := b - 1) (by omega) (by omega)
              have r2 := srt_cl h (p := b - 1) (q := b) (by omega) (by omega)
              rw [hc] at r1
              exact absurd (o.anti r1 r2) g5
      · by_cases hqe : q < e
        · exact hqe
        · rcases g4 with g4 | g4
          · omega
          · have ee := g3 (e - 1) (by omega) (by omega)
            by_cases hq2 : q = e
            · rw [hq2] at hc; rw [hc, ee] at g4; exact absurd rfl g4
            · have r1 := srt_cl h (p := e - 1) (q := e) (by omega) (by omega)
              have r2 := srt_cl h (p := e) (q := q) (by omega) hq
              rw [hc, ← ee] at r2
              exact absurd (o.anti r2 r1) g4
    have hsl : ∀ n, n < e - b → (slice cur b e)[n]? = rw[b + n]? := fun n hn => by
      unfold slice
      rw [List.getElem?_take_of_lt hn, List.getElem?_drop, ih, if_neg (by omega)]
    have hany : (slice cur b e).any (·.2.2) = markIn rw (cl rw b) := by
      rw [Bool.eq_iff_iff, mark_iff, List.any_eq_true]
      constructor
      · rintro ⟨r, hr, hu⟩
        obtain ⟨n, hn, rfl⟩ := List.getElem_of_mem hr
        have hn' : n < e - b := by simp [slice] at hn; omega
        have := hsl n hn'
        rw [List.getElem?_eq_getElem hn, List.getElem?_eq_getElem (by omega)] at this
        have := Option.some.inj this
        rw [this] at hu
        refine ⟨b + n, by omega, g3 _ (by omega) (by omega), ?_⟩
        rw [List.getD_eq_getElem?_getD, List.getElem?_eq_getElem (by omega)]; exact hu
      · rintro ⟨q, hq, hc, hu⟩
        obtain ⟨q1, q2⟩ := hout q hq hc
        have := hsl (q - b) (by omega)
        rw [show b + (q - b) = q by omega, List.getElem?_eq_getElem hq] at this
        refine ⟨rw[q], List.mem_of_getElem? this, ?_⟩
        rw [List.getD_eq_getElem?_getD, List.getElem?_eq_getElem hq] at hu
        exact hu
    have hspf : ∀ q (hq : q < rw.length), b ≤ q → q < e → spF rw rw[q] = (rw[q].1, rw[q].2.1, markIn rw (cl rw b)) := fun q hq h1 h2 => by
      unfold spF
      rw [← cl_eq hq, g3 q h1 h2]
    rw [hany]
    cases hu : markIn rw (cl rw b) with
    | true =>
      rw [if_pos rfl, sr_get (by omega), show b + (e - b) = e by omega, ih]
      by_cases h1 : k < b
      · rw [if_neg (by omega), if_pos h1, if_pos (by omega)]
      · by_cases h2 : k < e
        · rw [if_pos (by omega), if_neg h1, if_pos h2, List.getElem?_eq_getElem (by omega)]
          simp only [Option.map_some]
          rw [hspf k (by omega) (by omega) h2, hu]
          rfl
        · rw [if_neg (by omega), if_neg h1, if_neg h2]
    | false =>
      rw [if_neg (by decide), ih]
      by_cases h1 : k < b
      · rw [if_pos h1, if_pos (by omega)]
      · by_cases h2 : k < e
        · rw [if_neg h1, if_pos h2, List.getElem?_eq_getElem (by omega)]
          simp only [Option.map_some]
          rw [hspf k (by omega) (by omega) h2, hu]
          have : rw[k].2.2 = false := by
            cases hk : rw[k].2.2 with
            | false => rfl
            | true =>
              have : markIn rw (cl rw b) = true := mark_iff.mpr ⟨k, by omega, g3 k (by omega) h2, by rw [List.getD_eq_getElem?_getD, List.getElem?_eq_getElem (by omega)]; exact hk⟩
              rw [hu] at this; cases this
          rw [← this]
        · rw [if_neg h1, if_neg h2]
theorem spread_eq {R : Int → Int → Prop} (o : Ord R) {rw : List Tri} (h : Srt R rw) : spreadP rw = rw.map (spF rw) := by
  apply List.ext_getElem?
  intro k
  unfold spreadP
  rw [spread_state o h (Nat.le_refl _), last_bg, List.getElem?_map]
  by_cases hk : k < rw.length
  · rw [if_pos hk]
  · rw [if_neg hk, List.getElem?_eq_none (by omega)]; rfl
end Mine

set_option Elab.async false
set_option maxRecDepth 100000
set_option linter.unusedVariables false
set_option autoImplicit false
namespace Mine
open PySem PySem.W PyProof.Rows PySem.Calls PySem.SeqAt

section
variable {prog : Program} {w : World} {k : Nat} {K : Frag} {mg : Str → Option Value} {CI CB : Addr} {β : Heap}

/-- a loop over a range, what may change hanging on the turn -/
structure LoopR (prog : Program) (w : World) (A : Around) (env : Env) (x : Str) (body rest : List Stmt) (Q : Flow → Shared → Prop) (E : Value → Shared → Prop) (n : Nat) (s : Shared) (β : Heap) (m : List (Str × V)) (W : Addr → Prop) (J : Nat → (Addr → Prop) → Heap → List (Str × V) → Prop) : Prop where
  fx : Fx β env s.heap m
  j0 : J 0 W s.heap m
  wj : ∀ i W h m, J i W h m → (∀ b, W b → ¬ Own env b ∧ β.get? b = none) ∧ Wok W h
  jk : ∀ i W h1 h2 m1, Fx β env h1 m1 → Kf env h1 h2 → KW W h1 h2 → J i W h1 m1 → J i W h2 m1
  turn : ∀ i W h1 t1 m1 β1 E', i < n → Sub β β1 → (∀ b o, ¬ Own env b → ¬ W b → h1.get? b = some o → β1.get? b = some o) → St β1 W (KW W h1) env h1 (put m1 x (.int (i : Int))) → J i W h1 m1 →
      wpAny (model prog w) A (execs body env) (fun f s' => match f with
        | .next | .cont => ∃ h3 t3 m3 W3, s' = { s with heap := h3, toks := t3 } ∧ Fx β1 env h3 m3 ∧ J (i + 1) W3 h3 m3
        | .brk => wpAny (model prog w) A (execs rest env) Q E s'
        | .ret v => Q (.ret v) s') E' { s with heap := h1, toks := t1 }
  done : ∀ W h1 t1 m1, Fx β env h1 m1 → J n W h1 m1 → wpAny (model prog w) A (execs rest env) Q E { s with heap := h1, toks := t1 }

theorem for_range {A : Around} {s : Shared} {env : Env} {x : Str} {p : Pos} {body rest : List Stmt} {Q : Flow → Shared → Prop} {E : Value → Shared → Prop} {n : Nat} {m : List (Str × V)} {W : Addr → Prop} {J : Nat → (Addr → Prop) → Heap → List (Str × V) → Prop} (hA : Lv k A) (hx : env.kindOf x = some .local) (Lp : LoopR prog w A env x body rest Q E n s β m W J) :
    codeAny (model prog w) A (.forLoop (.Name x p) (.ref s.heap.objs.size) body [] env) (fun r s' => match r with
      | .ok f => (match f with | .next => wpAny (model prog w) A (execs rest env) Q E s' | f => Q f s')
      | .error e => cameBackBy (model prog w) A env E e s') { s with heap := s.heap.push { cls := .type "range_iterator", data := .fields #[rawInt 0, rawInt (n : Int), rawInt 1] } } := by
  obtain ⟨fx, j0, wj, jk, turn, done⟩ := Lp
  have hfI := get_new (h := s.heap)
  have hpush := Heap.get?_push_size s.heap (o := { cls := .type "range_iterator", data := .fields #[rawInt 0, rawInt (n : Int), rawInt 1] }) rfl
  have gH : Gw env.locals s.heap (s.heap.push { cls := .type "range_iterator", data := .fields #[rawInt 0, rawInt (n : Int), rawInt 1] }) := Gw.push _
  have bH : ∀ b o, s.heap.get? b = some o → (s.heap.push { cls := .type "range_iterator", data := .fields #[rawInt 0, rawInt (n : Int), rawInt 1] }).get? b = some o := fun b o e => Heap.get?_push_of_some _ e
  generalize s.heap.push { cls := .type "range_iterator", data := .fields #[rawInt 0, rawInt (n : Int), rawInt 1] } = H at *
  generalize s.heap.objs.size = I at *
  have nI : ¬ Own env I := fun q => by obtain ⟨o, q, _⟩ := fx.ownKind q; rw [hfI] at q; cases q
  have hI : β.get? I = none := no_get fx.sub hfI
  have J0 : J 0 W H m := jk 0 W s.heap H m fx (fun b o _ _ e => bH b o e) (fun b o _ e => bH b o e) j0
  have Wk := Walks.range (prog := prog) (w := w) (A := A) hA.hand I 0 1 n
  have st0 : IsRangeIter H I (0 + ((0 : Nat) : Nat) * 1) ((n : Int) - ((0 : Nat) : Nat)) 1 := by
    rw [show (0 : Int) + ((0 : Nat) : Int) * 1 = 0 by omega, show (n : Int) - ((0 : Nat) : Int) = n by omega]
    exact hpush
  refine codeAny_forLoop_any (fun nn s' => ∃ h1 t1 m1 W1 i, s' = { s with heap := h1, toks := t1 } ∧ nn = n + 1 - i ∧ i ≤ n ∧ Fx β env h1 m1 ∧ IsRangeIter h1 I (0 + (i : Nat) * 1) ((n : Int) - (i : Nat)) 1 ∧ J i W1 h1 m1)
    ?_ (n + 1) ⟨H, s.toks, m, W, 0, rfl, rfl, Nat.zero_le _, fx.gw gH, st0, J0⟩
  rintro nn s' ⟨h1, t1, m1, W1, i, rfl, hn, hi, F1, st1, J1⟩
  have nItup : ∀ its, ¬ IsTup h1 I its := fun its ⟨o, ho, hc, _⟩ => by
    have e : h1.get? I = _ := st1
    rw [e] at ho; cases ho; injection hc with q; exact absurd q (by decide)
  obtain ⟨w1, w2⟩ := wj _ _ _ _ J1
  have nWI : ¬ W1 I := fun q => by
    obtain ⟨o, e, r⟩ := w2 I q
    have e' : h1.get? I = _ := st1
    rw [e'] at e; cases e
    rcases r with ⟨es, n, d⟩ | ⟨hc, _⟩
    · cases d
    · injection hc with q; exact absurd q (by decide)
  by_cases hlt : i < n
  · refine Wk.item i _ _ _ hlt st1 fun v h2 t2 hP st2 k2 => ?_
    have k2 : But (· = I) h1 h2 := fun b o hb e => k2 b o (fun hm => hb (List.mem_singleton.mp hm)) e
    obtain ⟨tv, rfl⟩ := hP
    have F2 : Fx β env h2 m1 := F1.sw k2 fun b hb => by subst hb; exact ⟨nI, hI, nItup⟩
    have kf2 : Kf env h1 h2 := fun b o ho hf e => k2 b o (fun q => by
      subst q
      have e' : h1.get? b = _ := st1
      rw [e'] at e; cases e; exact hf _ rfl) e
    show wpAny (model prog w) A (letOwnedTupleGo (.Name x p) (.ref I) (.int (0 + (i : Nat) * 1) tv)) _ _ _
    refine wpAny_pure (a := ()) ?_
    refine wpAny_assign_Name (storeL (s := { s with heap := h2, toks := t2 }) (u := .int (i : Int)) F2 hx ⟨tv, by rw [Int.mul_one, Int.zero_add]⟩ fun h3 t3 F3 k3 => ?_)
    have kf3 : Kf env h1 h3 := fun b o ho hf e => k3 b o (fun q => ho (.inl q)) (kf2 b o ho hf e)
    have kw3 : KW W1 h1 h3 := kf_kw (fun b hb => (w1 b hb).1) w2 kf3
    have J3 : J i W1 h3 m1 := jk i W1 h1 h3 m1 F1 kf3 kw3 J1
    have st3 : IsRangeIter h3 I (0 + ((i + 1 : Nat) : Nat) * 1) ((n : Int) - ((i + 1 : Nat) : Nat)) 1 := by
      have e : h2.get? I = _ := st2
      exact k3 I _ (fun q => nI (.inl q)) e
    obtain ⟨β1, s1, F3', b1, all1⟩ := F3.base W1 fun b hb => (w1 b hb).2
    refine wpAny_mono (turn i W1 h3 t3 m1 β1 _ hlt s1 all1 ⟨F3', fun b hb => ⟨(w1 b hb).1, b1 b hb⟩, w2.kw kw3, .refl, fun _ _ a b => b.trans a⟩ J3) (fun f s4 hf => ?_) fun _ _ e => e
    have fin : (∃ h4 t4 m4 W4, s4 = { s with heap := h4, toks := t4 } ∧ Fx β1 env h4 m4 ∧ J (i + 1) W4 h4 m4) → ∃ n', n' < nn ∧ ∃ h1 t1 m1 W1 i, s4 = { s with heap := h1, toks := t1 } ∧ n' = n + 1 - i ∧ i ≤ n ∧ Fx β env h1 m1 ∧ IsRangeIter h1 I (0 + (i : Nat) * 1) ((n : Int) - (i : Nat)) 1 ∧ J i W1 h1 m1 := by
      rintro ⟨h4, t4, m4, W4, rfl, F4, J4⟩
      exact ⟨n + 1 - (i + 1), by omega, h4, t4, m4, W4, i + 1, rfl, rfl, hlt, F4.lower s1, F4.sub I _ (all1 I _ nI nWI st3), J4⟩
    cases f with
    | next => exact fin hf
    | cont => exact fin hf
    | brk => exact hf
    | ret v => exact hf
  · have e : i = n := by omega
    subst e
    refine Wk.done _ _ _ st1 fun h4 t4 k4 => wpAny_execs_nil ?_
    have k4 : But (· = I) h1 h4 := fun b o hb e => k4 b o (fun hm => hb (List.mem_singleton.mp hm)) e
    have kf4 : Kf env h1 h4 := fun b o ho hf e => k4 b o (fun q => by
      subst q
      have e' : h1.get? b = _ := st1
      rw [e'] at e; cases e; exact hf _ rfl) e
    exact done W1 h4 t4 m1 (F1.sw k4 fun b hb => by subst hb; exact ⟨nI, hI, nItup⟩) (jk _ _ _ _ _ F1 kf4 (kf_kw (fun b hb => (w1 b hb).1) w2 kf4) J1)

theorem LoopR.gw {A : Around} {s : Shared} {env : Env} {x : Str} {body rest : List Stmt} {Q : Flow → Shared → Prop} {E : Value → Shared → Prop} {n : Nat} {m : List (Str × V)} {W : Addr → Prop} {J : Nat → (Addr → Prop) → Heap → List (Str × V) → Prop} (Lp : LoopR prog w A env x body rest Q E n s β m W J) {h : Heap} {t : Nat} (g : Gw env.locals s.heap h) :
    LoopR prog w A env x body rest Q E n { s with heap := h, toks := t } β m W J :=
  ⟨Lp.fx.gw g, Lp.jk 0 W s.heap h m Lp.fx (fun b o hO _ e => g.keep b o (fun q => hO (.inl q)) e) (fun b o hb e => g.keep b o (fun q => ((Lp.wj _ _ _ _ Lp.j0).1 b hb).1 (.inl q)) e) Lp.j0, Lp.wj, Lp.jk, Lp.turn, Lp.done⟩
/-- for x in range(e) -/
theorem s_range {A : Around} {s : Shared} {env : Env} {m : List (Str × V)} {x : Str} {pn p pos pc : Pos} {e : Expr} {body rest : List Stmt} {Q : Flow → Shared → Prop} {E : Value → Shared → Prop} (hA : Lv k A) (F : Fx β env s.heap m) (B : Bs mg β) (hr : env.kindOf "range" = some .globalImplicit) (hv : mg "range" = none) (hx : env.kindOf x = some .local)
    (y : wpAny (model prog w) A (eval e env) (fun v s1 => ∃ (n : Nat) (t9 : Tok) (β1 : Heap) (m1 : List (Str × V)) (W : Addr → Prop) (J : Nat → (Addr → Prop) → Heap → List (Str × V) → Prop), v = .int n t9 ∧ n ≤ 1000 ∧ LoopR prog w A env x body rest Q E n s1 β1 m1 W J) E s)
    (he : starEach [e] env = [(false, eval e env)] := by rfl)
    (hs : ∀ x, foldedSetIterable (.Call (.Name "range" pn) [e] [] pc) env x = pure x := by intro _; rfl) :
    wpAny (model prog w) A (execs (.For (.Name x p) (.Call (.Name "range" pn) [e] [] pc) body [] pos :: rest) env) Q E s := by
  refine wpAny_execs_cons (wpAny_For (Call_Name rfl (name_built F B hr hv boot_range ?_ (by decide) (by decide))) hs)
  refine PyProof.Rows.callWith_type1 (rest := []) ?_ he rfl
  rw [he]
  refine spliced_cons (wpAny_mono y (fun v s1 hy => spliced_nil ?_) fun _ _ e => e)
  obtain ⟨n, t9, β1, m1, W, J, rfl, hn, Lp⟩ := hy
  refine call_range_1 ?_
  refine wpAny_pyIter_range (IsRange.new ..) (small_one (by omega) (by omega) (by omega) (by omega)) ?_
  have e : Builtin.Range.rangeSize 0 (n : Int) 1 = (n : Int) := by rw [rangeSize_one]; split <;> omega
  rw [e]
  exact for_range (s := { s1 with heap := _, toks := _ }) hA hx (Lp.gw (Gw.push _))
end
end Mine

set_option Elab.async false
set_option maxRecDepth 100000
set_option linter.unusedVariables false
set_option autoImplicit false
namespace Mine
open PySem PySem.W PyProof.Rows PySem.Calls PySem.SeqAt

def fresh0 (r : Tri) : Tri := (r.1, r.2.1, false)
/-- new infos for a row -/
def NewRow (CI : Addr) (rows : List Tri) (v : Value) (h₀ h' : Heap) : Prop := ∃ l as, v = .ref l ∧ Lst h' l (refs as) ∧ Rw CI h' as (rows.map fresh0) ∧ h₀.get? l = none ∧ ∀ p ∈ as, h₀.get? p.1 = none ∧ h₀.get? p.2 = none

section
variable {prog : Program} {w : World} {k : Nat} {K : Frag} {mg : Str → Option Value} {CI CB : Addr} {β : Heap}

theorem Gr.rem {env : Env} {h : Heap} {e : Expr} {P : Value → Heap → Heap → Prop} (x : Gr prog w k env h e P) : Gr prog w k env h e fun v h₀ h' => P v h₀ h' ∧ Gw env.locals h h₀ :=
  fun A hA s g Q E q => x A hA s g Q E fun v h' t g' p => q v h' t g' ⟨p, g⟩
theorem refs_vals {h : Heap} {as : List (Addr × Addr)} : Paired (Rep h) (as.map fun p => Value.ref p.1) (refs as) := by
  induction as with
  | nil => exact .nil
  | cons a l ih => exact .cons rfl ih

theorem Gr.compInfos {env : Env} {h : Heap} {m : List (Str × V)} {e : Expr} {scope : Scope} {np cp p0 p1 p2 p3 q1 q2 tp pos : Pos} {k0 kk : Nat} {rows : List Tri} (T : Tx K mg CI CB β) (F : Fx β env h m) (y : EvA prog w (k + 2) env h e (tris rows)) (hz : rows.length ≤ 1000)
    (hg : scope.names.lookup ("glyph" : Str) = some .local) (ho : scope.names.lookup ("one" : Str) = some .local) (hu : scope.names.lookup ("is_unsafe" : Str) = some .local) (hi : scope.names.lookup ("Info" : Str) = some .globalImplicit)
    (hok : compOk scope env [] = true) (h3 : (scope.names.map (·.1)).Nodup) (hs : ∀ x, foldedSetIterable e env x = pure x := by intro _; rfl)
    (he : ∀ C, starEach [.Constant (.int 0) k0 p0, .Name "glyph" q1, .Name "one" q2] (cEnv scope C env) = (false, eval (.Constant (.int 0) k0 p0) (cEnv scope C env)) :: starEach [.Name "glyph" q1, .Name "one" q2] (cEnv scope C env) := by intro _; rfl) :
    Gr prog w (k + 2) env h (.ListComp (.Call (.Name "Info" np) [.Constant (.int 0) k0 p0, .Name "glyph" q1, .Name "one" q2] [] cp) [⟨.Tuple [.Name "glyph" p1, .Name "one" p2, .Name "is_unsafe" p3] kk tp, e, [], 0⟩] scope pos) (NewRow CI rows) :=
  fun A hA s g Q E q => by
    rw [eval_ListComp]
    have hn : (tris rows).length = rows.length := tris_length
    have F0 := F.gw g
    refine comp_src (use := none) (W' := no) (us := tris rows) _ hA F0 Subm.nil (fun A hA s' g' Q E q => Src.list (EvA.ww (Gr.gw y g)) (.inr ⟨_, _, _, rfl, fun u hu => by
        obtain ⟨r, _, rfl⟩ := List.mem_map.mp hu
        exact ⟨_, _, _, rfl⟩⟩) A hA s' g' Q E q) (by rw [hn]; exact hz)
      (fun i m => put (put (put m "glyph" (.int (rows.getD i default).1)) "one" (.int (cl rows i))) "is_unsafe" (.bool (rows.getD i default).2.2)) (fun i x u e => by cases e) (fun C i u hu' => ?_) (fun _ => true)
      (fun i v h1 h2 => NewInfo CI (rows.getD i default).1 (cl rows i) false v h1 h2 ∧ ∀ b, h1.get? b = none → s.heap.get? b = none)
      (fun bad i h ys => ∃ as : List (Addr × Addr), ys = as.map (fun p => Value.ref p.1) ∧ as.length = i ∧ Rw CI h as ((rows.take i).map fresh0) ∧ ∀ p ∈ as, ¬ bad p.1 ∧ ¬ bad p.2 ∧ s.heap.get? p.1 = none ∧ s.heap.get? p.2 = none)
      (fun C i h4 hC g4 F4 hi' => ⟨Te.nil, fun _ => ?_⟩) (fun bad h' => ⟨[], rfl, rfl, ⟨(fun p hp => by cases hp), .nil, .nil⟩, (fun p hp => by cases hp)⟩) (fun bad i h1 h2 ys b ⟨as, e1, e2, e3, e4⟩ => ⟨as, e1, e2, e3.keep (fun p hp o e => b _ o (e4 p hp).1 e) (fun p hp o e => b _ o (e4 p hp).2.1 e), e4⟩)
      (fun bad i h1 h2 ys v ha ht hi' hp hP bt j1 j2 => ?_) (fun bad i h1 ys hp => by cases hp) hok h3 ?_ hs
    · have hi' : i < rows.length := by have := (List.getElem?_eq_some_iff.mp hu').1; rwa [hn] at this
      rw [tris_get hi'] at hu'
      cases hu'
      exact TkL.tri hA.hand (cloc hg) (cloc ho) (cloc hu)
    · refine (Gr.rem (Gr.info T F4 (cglob hi) (Ar.cons Ev.int (Ar.cons (cnl F4 (by rfl) hg) (Ar.cons (cnl F4 (by rfl) ho) Ar.nil))) (he C))).mono fun v h₀ h' ⟨n, g5⟩ => ⟨n, fun b e => g4.fresh ?_⟩
      cases q' : h4.get? b with
      | none => rfl
      | some o => obtain ⟨o', eo⟩ := g5.alive b o q'; rw [e] at eo; cases eo
    · obtain ⟨⟨x, dx, ev, f1, f2, eI, D⟩, hf⟩ := hP
      obtain ⟨as, e1, e2, e3, e4⟩ := j1
      rw [hn] at hi'
      have nb : ∀ b, h1.get? b = none → ¬ bad b := fun b e hb => by obtain ⟨o, eo⟩ := ha b hb; rw [e] at eo; cases eo
      have e32 : Rw CI h2 as ((rows.take i).map fresh0) := e3.keep (fun p hp o e => bt _ o (e4 p hp).1 e) (fun p hp o e => bt _ o (e4 p hp).2.1 e)
      have er : (rows.take (i + 1)).map fresh0 = (rows.take i).map fresh0 ++ [((rows.getD i default).1, cl rows i, false)] := by
        rw [List.take_add_one, List.getElem?_eq_getElem hi', List.map_append]
        unfold cl
        rw [List.getD_eq_getElem?_getD, List.getElem?_eq_getElem hi']; rfl
      refine ⟨as ++ [(x, dx)], by rw [e1, ev, List.map_append]; rfl, by rw [List.length_append, e2]; rfl, ?_, fun p hp => ?_⟩
      · rw [er]
        refine ⟨fun p hp => ?_, paired_append e32.flds (.cons D .nil), ?_⟩
        · rcases List.mem_append.mp hp with hp | hp
          · exact e32.inst p hp
          · rw [List.mem_singleton.mp hp]; exact eI
        · rw [List.map_append, List.nodup_append]
          refine ⟨e32.nd, by simp, fun b hb c hc e => ?_⟩
          obtain ⟨p, hp, rfl⟩ := List.mem_map.mp hb
          have hc : c = dx := by simpa using hc
          obtain ⟨o, eo, _⟩ := e3.alive hp
          rw [e, hc, f2] at eo; cases eo
      · rcases List.mem_append.mp hp with hp | hp
        · exact e4 p hp
        · rw [List.mem_singleton.mp hp]; exact ⟨nb x f1, nb dx f2, hf x f1, hf dx f2⟩
    · intro D C h' tk ys n bad hD hC hDC hns hl hbad hJ g'
      obtain ⟨mm, hmm⟩ := hns
      obtain ⟨as, e1, e2, e3, e4⟩ := hJ
      refine ⟨mm, hmm, fun h'' hs => q _ _ tk ?_ ⟨D, as, rfl, ⟨ys, n, hs.extBut D _ hDC hl, ?_⟩, ?_, hD, fun p hp => ⟨(e4 p hp).2.2.1, (e4 p hp).2.2.2⟩⟩⟩
      · have hCs : ∀ b o, s.heap.get? b = some o → b ≠ C := fun b o e => fresh_ne hC e
        exact ⟨fun b o hb e => hs.extBut b o (hCs b o e) (g'.keep b o hb e), fun o d e => hs.extBut _ o (hCs _ o e) (g'.own o d e), fun m x => by
          have := g'.ns m x
          obtain ⟨o, _, _, e, _⟩ := x
          exact this.at' fun o' e' => hs.extBut _ o' (hCs _ o e) e', fun b o e => by obtain ⟨o', e'⟩ := g'.alive b o e; exact ⟨o', hs.extBut b o' (hCs b o e) e'⟩⟩
      · rw [e1]; exact refs_vals
      · rw [hn, List.take_length] at e3
        exact e3.keep (fun p hp o e => hs.extBut _ o (fun q => (e4 p hp).1 (q ▸ hbad)) e) (fun p hp o e => hs.extBut _ o (fun q => (e4 p hp).2.1 (q ▸ hbad)) e)

theorem buf_init_ok {A : Around} {s : Shared} {f x dx l : Addr} {b : Bool} {vals : List Value} {R : Result → Shared → Prop} (T : Tx K mg CI CB β) (hA : Lv (k + 1) A) (D : Df K β (meth 3 0) f) (sub : Sub β s.heap)
    (hp : Paired (Rep s.heap) vals [.ref x, .ref l, .bool b]) (Ia : s.heap.get? x = some (instObj CB dx)) (hx : β.get? x = none) (hd : β.get? dx = none) (Dd : Ds s.heap dx 0 [])
    (q : ∀ h' t, But (· = dx) s.heap h' → Ds h' dx 3 (bufF l b) → R (.ok (.ret .none)) { s with heap := h', toks := t }) :
    codeAny (model prog w) A (.call (.ref f) ⟨vals, []⟩) R s := by
  have hne : x ≠ dx := fun e => by
    obtain ⟨o, eo, es, n, d⟩ := Dd.dict
    rw [← e, Ia] at eo; cases eo; cases d
  refine enterW (W := (· = dx)) (I := fun h => Ds h dx 0 []) hA T.bs sub (fun b hb => hb ▸ hd) (fun b hb => hb ▸ (let ⟨o, e, r⟩ := Dd.dict; ⟨o, e, .inl r⟩)) D hp rfl Dd (fun h h' kw x => x.at fun o e => kw dx o rfl e)
    fun qual cd L h1 t1 β1 E sb up dn low fL kw S hA' => ?_
  have X := T.sub sb
  have I1 : β1.get? x = some (instObj CB dx) := up _ _ hne Ia
  refine s_setnew hA' S X.kin X.buf.2.2.1 I1 (by decide) (by decide) (nl S.fx) (fun _ _ _ q => by cases q) (nl S.fx) fun h t S => ?_
  refine s_setnew (s := { s with heap := h, toks := t }) hA' S X.kin X.buf.2.2.1 I1 (by decide) (by decide) (nl S.fx) (fun _ _ _ q => by cases q) (nl S.fx) fun h t S => ?_
  refine s_setnew (s := { s with heap := h, toks := t }) hA' S X.kin X.buf.2.2.1 I1 (by decide) (by decide) Ev.int (fun _ _ _ q => by cases q) (nl S.fx) fun h t S => ?_
  exact x_nil (q h t (dn h S.fx.sub) S.inv)
def NewBuf (CB l : Addr) (b : Bool) (v : Value) (h₀ h' : Heap) : Prop := ∃ x dx, v = .ref x ∧ h₀.get? x = none ∧ h₀.get? dx = none ∧ h'.get? x = some (instObj CB dx) ∧ Ds h' dx 3 (bufF l b)
theorem c_buffer {A : Around} {s : Shared} {vs : List Value} {R : Result → Shared → Prop} {l : Addr} {b : Bool} {ml : Str → Option Value} {L : Addr} (T : Tx K mg CI CB β) (hA : Lv (k + 2) A) (sub : Sub β s.heap) (hn : s.heap.Ns L ml) (hL : β.get? L = none) (hp : Paired (Rep s.heap) vs [.ref l, .bool b])
    (q : ∀ v h' t, Gw L s.heap h' → NewBuf CB l b v s.heap h' → R (.ok (.ret v)) { s with heap := h', toks := t }) :
    codeAny (model prog w) A (.call (.ref CB) ⟨vs, []⟩) R s := by
  obtain ⟨gI, kI, YI, fI, M, DI⟩ := T.buf
  refine make_at hA (T.kin.keeps sub) M hn fun x dx h' A' hA' fx fd gw eI D0 => ?_
  have hβ : ∀ b, s.heap.get? b = none → β.get? b = none := fun b q => no_get sub q
  have hsub : Sub β h' := fun b o e => gw.keep b o (fun hb => by rw [hb, hL] at e; cases e) (sub b o e)
  refine buf_init_ok (s := { s with heap := h' }) T hA' DI hsub (.cons rfl (paired_mono (fun _ _ => gw.rep) hp)) eI (hβ x fx) (hβ dx fd) D0 fun h2 t2 b2 D2 => ?_
  have hne : x ≠ dx := fun e => by
    obtain ⟨o, eo, es, n, d⟩ := D0.dict
    rw [← e, eI] at eo; cases eo; cases d
  exact ⟨rfl, q (.ref x) h2 t2 (Gw.iter .refl gw fd b2) ⟨x, dx, rfl, fx, fd, b2 x _ hne eI, D2⟩⟩

/-- a call whose arguments may hang on the run -/
theorem e_callC {A : Around} {s : Shared} {env : Env} {m : List (Str × V)} {x : Str} {p pos : Pos} {e : Expr} {es : List Expr} {a : Addr} {Q : Value → Shared → Prop} {E : Value → Shared → Prop} (F : Fx β env s.heap m) (B : Bs mg β) (X : K.In β) (hx : env.kindOf x = some .globalImplicit) (hg : mg x = some (.ref a)) (hk : keepIn K (.ref a) = true)
    (y : wpAny (model prog w) A (spliced (backTo pos (starEach (e :: es) env))) (fun vs s1 => Sub β s1.heap ∧ codeAny (model prog w) A (.call (.ref a) ⟨vs, []⟩) (fun r s' => match r with | .ok (.ret v) => Q v s' | .ok _ => False | .error e => E e s') s1) E s)
    (he : starEach (e :: es) env = (false, eval e env) :: starEach es env := by rfl) (hplain : (backTo pos (starEach es env)).any (·.1) = false := by rfl) (hd : (x == ("__debug__" : Str)) = false := by decide +kernel) :
    wpAny (model prog w) A (eval (.Call (.Name x p) (e :: es) [] pos) env) Q E s :=
  Call_Name rfl (name_glob F B hx hg (callWith_K (X.keeps F.sub) hk (wpAny_mono y (fun vs s1 h => ⟨X.keeps h.1, wpAny_call h.2⟩) fun _ _ e => e) he hplain) hd)
end
end Mine

set_option Elab.async false
set_option maxRecDepth 100000
set_option linter.unusedVariables false
set_option autoImplicit false
namespace Mine
open PySem PySem.W PyProof.Rows PySem.Calls PySem.SeqAt

theorem lst_tup {h h' : Heap} {l : Addr} {us : List V} (x : Lst h l us) (k : ∀ o, h.get? l = some o → h'.get? l = some o) (T : ∀ a its, IsTup h a its → IsTup h' a its) : Lst h' l us := let ⟨vs, n, e, p⟩ := x; ⟨vs, n, k _ e, paired_mono (fun _ _ => rep_tup T) p⟩
def Rb (bf : Bool) (a b : Int) : Prop := if bf then b ≤ a else a ≤ b
theorem ord_Rb (bf : Bool) : Ord (Rb bf) where
  refl a := by unfold Rb; split <;> exact Int.le_refl _
  trans {a b c} h1 h2 := by unfold Rb at *; split at h1 <;> simp_all <;> omega
  anti {a b} h1 h2 := by unfold Rb at *; split at h1 <;> simp_all <;> omega
theorem ordered_Rb {bf : Bool} {ns : List Int} : Ordered bf ns ↔ ns.Pairwise (Rb bf) := by
  unfold Ordered Rb
  cases bf
  · exact Iff.rfl
  · exact Iff.rfl

section
variable {prog : Program} {w : World} {k : Nat} {K : Frag} {mg : Str → Option Value} {CI CB : Addr} {β : Heap}

theorem e_draw {A : Around} {s : Shared} {env : Env} {m : List (Str × V)} {W : Addr → Prop} {I : Heap → Prop} {e1 e2 : Expr} {pp pos : Pos} {p c : Addr} {n : Nat} {Q : Value → Shared → Prop} {E : Value → Shared → Prop} (T : Tx K mg CI CB β) (hA : Lv (k + 1) A) (S : St β W I env s.heap m) (hx : env.kindOf "_law_draw" = some .globalImplicit) (P : Pn s.heap p c) (hW : ∀ b, Wp p c b → W b)
    (z : Ev prog w (k + 1) env s.heap e1 (.ref p)) (y : Ev prog w (k + 1) env s.heap e2 (.int n)) (hn : 1 ≤ n) (hn2 : n ≤ 1000)
    (q : ∀ (d : Nat) h' t tk, d < n → St β W (KW W h') env h' m → Pn h' p c → (∀ b o, ¬ Wp p c b → b ≠ env.locals → s.heap.get? b = some o → h'.get? b = some o) → (∀ a its, IsTup s.heap a its → IsTup h' a its) → Q (.int d tk) { s with heap := h', toks := t })
    (he : starEach [e1, e2] env = (false, eval e1 env) :: starEach [e2] env := by rfl) (he2 : starEach [e2] env = (false, eval e2 env) :: starEach [] env := by rfl) (hplain : (backTo pos (starEach [e2] env)).any (·.1) = false := by rfl) :
    wpAny (model prog w) A (eval (.Call (.Name "_law_draw" pp) [e1, e2] [] pos) env) Q E s := by
  obtain ⟨fd, gd, dd⟩ := T.fn 14 (by decide)
  refine e_call hA S.fx T.bs T.kin hx gd dd.1 (Ar.cons z (Ar.cons y Ar.nil he2) he) (fun vs h2 t2 g2 pp => ?_) he hplain
  have S2 := S.gw g2
  have P2 : Pn h2 p c := P.kw fun b o hb e => S.kwGw g2 b o (hW b hb) e
  refine draw_ok (s := { s with heap := h2, toks := t2 }) T hA dd S2.fx.sub pp P2 (S.out p (hW p (.inl rfl))).2 (S.out c (hW c (.inr rfl))).2 hn hn2 fun d h3 t3 tk hd b3 P3 => ?_
  have ok3 : Wok W h3 := fun b hb => by
    by_cases hp : Wp p c b
    · exact P3.wok b hp
    · obtain ⟨o, e, r⟩ := S2.ok b hb
      exact ⟨o, b3 b o hp e, r⟩
  refine q d h3 t3 tk hd (S2.eff (b3.mono hW) ok3 .refl fun _ _ a b => b.trans a) P3 (fun b o hb hL e => b3 b o hb (g2.keep b o hL e)) fun a its x => ?_
  obtain ⟨o, e, cc, nn, dd⟩ := g2.tup x
  exact ⟨o, b3 a o (fun q => P2.wok.notTup q its ⟨o, e, cc, nn, dd⟩) e, cc, nn, dd⟩
/-- a draw, is it nought -/
theorem e_drawB {A : Around} {s : Shared} {env : Env} {m : List (Str × V)} {W : Addr → Prop} {I : Heap → Prop} {e1 e2 : Expr} {pp pos pos2 pz : Pos} {kk : Nat} {p c : Addr} {n : Nat} {Q : Value → Shared → Prop} {E : Value → Shared → Prop} (T : Tx K mg CI CB β) (hA : Lv (k + 1) A) (S : St β W I env s.heap m) (hx : env.kindOf "_law_draw" = some .globalImplicit) (P : Pn s.heap p c) (hW : ∀ b, Wp p c b → W b)
    (z : Ev prog w (k + 1) env s.heap e1 (.ref p)) (y : Ev prog w (k + 1) env s.heap e2 (.int n)) (hn : 1 ≤ n) (hn2 : n ≤ 1000)
    (q : ∀ (b : Bool) h' t, St β W (KW W h') env h' m → Pn h' p c → (∀ b o, ¬ Wp p c b → b ≠ env.locals → s.heap.get? b = some o → h'.get? b = some o) → (∀ a its, IsTup s.heap a its → IsTup h' a its) → Q (.bool b) { s with heap := h', toks := t })
    (he : starEach [e1, e2] env = (false, eval e1 env) :: starEach [e2] env := by rfl) (he2 : starEach [e2] env = (false, eval e2 env) :: starEach [] env := by rfl) (hplain : (backTo pos (starEach [e2] env)).any (·.1) = false := by rfl) (hm : behindInMarks .Eq (.Constant (.int 0) kk pz) = false := by with_unfolding_all rfl) :
    wpAny (model prog w) A (eval (.Compare (.Call (.Name "_law_draw" pp) [e1, e2] [] pos) [.Eq] [.Constant (.int 0) kk pz] pos2) env) Q E s :=
  wpAny_Compare1 (e_draw T hA S hx P hW z y hn hn2 (fun d h' t tk hd S' P' k1 k2 => wpAny_Constant_int (c_eq A E _ _ _ _ (q _ h' _ S' P' k1 k2))) he he2 hplain) hm

theorem EvL.told {env : Env} {h : Heap} {m : List (Str × V)} {e : Expr} {p pos : Pos} {b l : Addr} {bb : Bool} {as : List (Addr × Addr)} {rw : List Tri} (T : Tx K mg CI CB β) (F : Fx β env h m) (hx : env.kindOf "_law_told" = some .globalImplicit) (y : Ev prog w (k + 1) env h e (.ref b))
    (Bb : Bo CB β b l bb) (xl : Lst h l (refs as)) (xr : Rw CI h as rw) (oL : ∀ p ∈ as, p.2 ≠ env.locals) (hz : rw.length ≤ 900)
    (he : starEach [e] env = (false, eval e env) :: starEach [] env := by rfl) (hplain : (backTo pos (starEach [] env)).any (·.1) = false := by rfl) :
    EvL prog w (k + 1) env h (.Call (.Name "_law_told" p) [e] [] pos) (tris rw) := by
  obtain ⟨fg, gg, dg⟩ := T.fn 20 (by decide)
  exact Gr.def (P := fun v h₀ h' => ∃ l, v = .ref l ∧ Lst h' l (tris rw) ∧ h₀.get? l = none) F T.bs T.kin hx gg dg.1 (Ar.cons y Ar.nil he)
    (fun A hA s vs R sub g pp q => told_ok (T.sub sub) hA (dg.sub sub) pp (Bb.sub sub) (g.lst xl) (xr.gw g oL) hz fun v h' t s' hv => q v h' t s' hv)
    (fun h1 h2 v h' g ⟨l, a, b, c⟩ => ⟨l, a, b, g.fresh c⟩) he hplain
theorem EvL.lawEnds {env : Env} {h : Heap} {m : List (Str × V)} {e : Expr} {p pos : Pos} {l : Addr} {rw : List Tri} (T : Tx K mg CI CB β) (F : Fx β env h m) (hx : env.kindOf "_law_ends" = some .globalImplicit) (y : Ev prog w (k + 1) env h e (.ref l))
    (xl : Lst h l (tris rw)) (hz : rw.length ≤ 900)
    (he : starEach [e] env = (false, eval e env) :: starEach [] env := by rfl) (hplain : (backTo pos (starEach [] env)).any (·.1) = false := by rfl) :
    EvL prog w (k + 1) env h (.Call (.Name "_law_ends" p) [e] [] pos) (nats (endsP rw)) := by
  obtain ⟨fg, gg, dg⟩ := T.fn 19 (by decide)
  exact Gr.def (P := fun v h₀ h' => ∃ l, v = .ref l ∧ Lst h' l (nats (endsP rw)) ∧ h₀.get? l = none) F T.bs T.kin hx gg dg.1 (Ar.cons y Ar.nil he)
    (fun A hA s vs R sub g pp q => law_ends_ok (T.sub sub) hA (dg.sub sub) pp (g.lst xl) hz fun v h' t s' hv => q v h' t s' hv)
    (fun h1 h2 v h' g ⟨l, a, b, c⟩ => ⟨l, a, b, g.fresh c⟩) he hplain
theorem EvL.lawHung {env : Env} {h : Heap} {m : List (Str × V)} {e1 e2 e3 : Expr} {p pos : Pos} {l : Addr} {rw : List Tri} {i j : Nat} (T : Tx K mg CI CB β) (F : Fx β env h m) (hx : env.kindOf "_law_hung" = some .globalImplicit) (y : Ar prog w (k + 1) env h [e1, e2, e3] [.ref l, .int i, .int j])
    (xl : Lst β l (tris rw)) (hij : i ≤ j) (hj : j ≤ rw.length) (hz : rw.length ≤ 900)
    (he : starEach [e1, e2, e3] env = (false, eval e1 env) :: starEach [e2, e3] env := by rfl) (hplain : (backTo pos (starEach [e2, e3] env)).any (·.1) = false := by rfl) :
    EvL prog w (k + 1) env h (.Call (.Name "_law_hung" p) [e1, e2, e3] [] pos) (tris (lhungP rw i j)) := by
  obtain ⟨fg, gg, dg⟩ := T.fn 17 (by decide)
  exact Gr.def (P := fun v h₀ h' => ∃ l, v = .ref l ∧ Lst h' l (tris (lhungP rw i j)) ∧ h₀.get? l = none) F T.bs T.kin hx gg dg.1 y
    (fun A hA s vs R sub g pp q => law_hung_ok (T.sub sub) hA (dg.sub sub) pp (lst_sub sub xl) hij hj hz fun v h' t s' hv => q v h' t s' hv)
    (fun h1 h2 v h' g ⟨l, a, b, c⟩ => ⟨l, a, b, g.fresh c⟩) he hplain
theorem EvL.lawPut {env : Env} {h : Heap} {m : List (Str × V)} {e1 e2 e3 e4 : Expr} {p pos : Pos} {l gl : Addr} {rw : List Tri} {i n : Nat} {gs : List Int} (T : Tx K mg CI CB β) (F : Fx β env h m) (hx : env.kindOf "_law_put" = some .globalImplicit) (y : Ar prog w (k + 2) env h [e1, e2, e3, e4] [.ref l, .int i, .int n, .ref gl])
    (xl : Lst β l (tris rw)) (xg : Lst β gl (gs.map V.int)) (hn : 1 ≤ n) (hin : i + n ≤ rw.length) (hz : rw.length ≤ 400) (hg : gs.length ≤ 10)
    (he : starEach [e1, e2, e3, e4] env = (false, eval e1 env) :: starEach [e2, e3, e4] env := by rfl) (hplain : (backTo pos (starEach [e2, e3, e4] env)).any (·.1) = false := by rfl) :
    EvL prog w (k + 2) env h (.Call (.Name "_law_put" p) [e1, e2, e3, e4] [] pos) (tris (lputP rw i n gs)) := by
  obtain ⟨fg, gg, dg⟩ := T.fn 18 (by decide)
  exact Gr.def (P := fun v h₀ h' => ∃ l, v = .ref l ∧ Lst h' l (tris (lputP rw i n gs)) ∧ h₀.get? l = none) F T.bs T.kin hx gg dg.1 y
    (fun A hA s vs R sub g pp q => law_put_ok (T.sub sub) hA (dg.sub sub) pp (lst_sub sub xl) (lst_sub sub xg) hn hin hz hg fun v h' t s' hv => q v h' t s' hv)
    (fun h1 h2 v h' g ⟨l, a, b, c⟩ => ⟨l, a, b, g.fresh c⟩) he hplain

def Wm (p c l : Addr) (as : List (Addr × Addr)) (b : Addr) : Prop := Wp p c b ∨ Wb l as b
/-- the law's state between two deeds; β bears the text and the buffer -/
structure MS (CI : Addr) (env : Env) (bf : Bool) (β : Heap) (p c l : Addr) (h : Heap) (r : Addr) (rows : List Tri) (as : List (Addr × Addr)) (N : Nat) : Prop where
  pn : Pn h p c
  lst : Lst h l (refs as)
  rw : Rw CI h as rows
  row : Lst h r (tris rows)
  srt : Srt (Rb bf) rows
  bnd : ∀ x ∈ rows, x.2.1 ≤ 10 ^ 9
  len : rows.length ≤ N
  nor : ¬ Own env r ∧ ¬ Wm p c l as r
  out : ∀ b, Wm p c l as b → ¬ Own env b ∧ β.get? b = none
  dis : ∀ b, Wp p c b → ¬ Wb l as b
theorem MS.wok {CI : Addr} {env : Env} {bf : Bool} {β : Heap} {p c l : Addr} {h : Heap} {r : Addr} {rows : List Tri} {as : List (Addr × Addr)} {N : Nat} (x : MS CI env bf β p c l h r rows as N) : Wok (Wm p c l as) h := fun b hb => hb.elim (x.pn.wok b) (wb_wok x.lst x.rw b)
/-- the state is kept where these objects are -/
theorem MS.keep {CI : Addr} {env : Env} {bf : Bool} {β : Heap} {p c l : Addr} {h h' : Heap} {r : Addr} {rows : List Tri} {as : List (Addr × Addr)} {N : Nat} (x : MS CI env bf β p c l h r rows as N) (P : Pn h' p c) (k1 : ∀ o, h.get? l = some o → h'.get? l = some o) (k2 : ∀ q ∈ as, ∀ o, h.get? q.1 = some o → h'.get? q.1 = some o)
    (k3 : ∀ q ∈ as, ∀ o, h.get? q.2 = some o → h'.get? q.2 = some o) (k4 : ∀ o, h.get? r = some o → h'.get? r = some o) (T : ∀ a its, IsTup h a its → IsTup h' a its) : MS CI env bf β p c l h' r rows as N :=
  ⟨P, lst_refs x.lst k1, x.rw.keep k2 k3, lst_tup x.row k4 T, x.srt, x.bnd, x.len, x.nor, x.out, x.dis⟩
end
end Mine

set_option Elab.async false
set_option maxRecDepth 100000
set_option linter.unusedVariables false
set_option autoImplicit false
namespace Mine
open PySem PySem.W PyProof.Rows PySem.Calls PySem.SeqAt

/-- the law's names between two deeds -/
def mL (sc p : Addr) (bf : Bool) (b r : Addr) : List (Str × V) := [("script", .ref sc), ("pen", .ref p), ("is_falling", .bool bf), ("row", .ref r), ("buffer", .ref b)]
/-- the name that a row of the text fills -/
def filled : Stmt → Str
  | .Assign [.Name x _] _ _ => x
  | _ => ""
/-- the law's own list of the clusters that are marked, as its text names it -/
abbrev listN : Str := filled (stAt (bodyOf (top 21)) 7)
def markL (rw : List Tri) : List Int := (rw.filter fun r => r.2.2).map fun r => r.2.1
theorem markL_contains {rw : List Tri} {x : Int} : (markL rw).contains x = markIn rw x := by
  rw [Bool.eq_iff_iff, List.contains_iff_mem]
  unfold markL markIn
  rw [List.any_eq_true]
  constructor
  · intro h
    obtain ⟨r, hr, e⟩ := List.mem_map.mp h
    obtain ⟨h1, h2⟩ := List.mem_filter.mp hr
    exact ⟨r, h1, by rw [h2, Bool.true_and, e, beq_self_eq_true]⟩
  · rintro ⟨r, hr, h⟩
    obtain ⟨h1, h2⟩ := Bool.and_eq_true_iff.mp h
    exact List.mem_map.mpr ⟨r, List.mem_filter.mpr ⟨hr, h1⟩, eq_of_beq h2⟩
theorem range_filter {rw : List Tri} {p : Tri → Bool} {f : Tri → V} : ((List.range rw.length).filter fun i => p (rw.getD i default)).map (fun i => f (rw.getD i default)) = (rw.filter p).map f := by
  have e : (List.range rw.length).map (fun i => rw.getD i default) = rw := by
    apply List.ext_getElem
    · simp
    · intro i h1 h2
      simp [h2]
  conv => rhs; rw [← e]
  rw [List.filter_map, List.map_map]
  rfl
theorem picked_mark {rw : List Tri} : picked (fun i => (rw.getD i default).2.2) (fun i => V.int (cl rw i)) rw.length = (markL rw).map V.int := by
  rw [picked_eq]
  refine (range_filter (rw := rw) (p := fun r => r.2.2) (f := fun r => V.int r.2.1)).trans ?_
  unfold markL
  rw [List.map_map]
  rfl

section
variable {prog : Program} {w : World} {k : Nat} {K : Frag} {mg : Str → Option Value} {CI CB : Addr} {β : Heap}

theorem MS.base {CI : Addr} {env : Env} {bf : Bool} {β β' : Heap} {p c l : Addr} {h : Heap} {r : Addr} {rows : List Tri} {as : List (Addr × Addr)} {N : Nat} (x : MS CI env bf β p c l h r rows as N) (n : ∀ b, Wm p c l as b → β'.get? b = none) : MS CI env bf β' p c l h r rows as N :=
  ⟨x.pn, x.lst, x.rw, x.row, x.srt, x.bnd, x.len, x.nor, fun b hb => ⟨(x.out b hb).1, n b hb⟩, x.dis⟩

theorem law_tail {A : Around} {s : Shared} {Q : Flow → Shared → Prop} {E : Value → Shared → Prop} {qual : Str} {cd : Value} {L f : Addr} {I : Heap → Prop} {sc p c l b r : Addr} {bf : Bool} {rows : List Tri} {as : List (Addr × Addr)} {N : Nat} (T : Tx K mg CI CB β) (hA : Lv (k + 2) A)
    (Bb : Bo CB β b l bf) (S : St β (Wm p c l as) I (dEnv (top 21) qual cd L f) s.heap (mL sc p bf b r)) (X : MS CI (dEnv (top 21) qual cd L f) bf β p c l s.heap r rows as N) (hN : N ≤ 400)
    (q : ∀ h' t, Sub β h' → Q (.ret (.bool true)) { s with heap := h', toks := t }) :
    wpAny (model prog w) A (execs ((bodyOf (top 21)).drop 7) (dEnv (top 21) qual cd L f)) Q E s := by
  obtain ⟨β1, sb1, S1, all1⟩ := S.rebase
  have T1 := T.sub sb1
  have xr1 : Lst β1 r (tris rows) := lst_base S all1 X.row X.nor.1 X.nor.2
  have hlen := X.len
  have hz : rows.length ≤ 400 := by omega
  have hn : (tris rows).length = rows.length := tris_length
  have ia1 : ∀ q ∈ as, β1.get? q.1 = some (instObj CI q.2) := fun q hq => all1 _ _ (S.fx.notOwn (X.rw.inst q hq) (fun _ _ e => by cases e) (fun _ e => by cases e)) (fun hb => by
    rcases hb with hb | hb
    · obtain ⟨o, eo, r⟩ := X.pn.wok _ hb
      rw [X.rw.inst q hq] at eo; cases eo
      rcases r with ⟨_, _, d⟩ | ⟨_, _, _, d⟩ <;> cases d
    · rcases hb with hb | hb
      · obtain ⟨vs, n, e, _⟩ := X.lst
        rw [← hb, X.rw.inst q hq] at e; cases e
      · exact rw_inst X.rw q hq hb) (X.rw.inst q hq)
  have S1 : St β1 (Wm p c l as) (KW (Wm p c l as) s.heap) (dEnv (top 21) qual cd L f) s.heap (mL sc p bf b r) := S1.imp .refl fun _ _ a b => b.trans a
  refine s_assignL (us := (markL rows).map V.int) hA S1 (isVar_cell (by rfl)) ((EvL.comp (mc := []) (us := tris rows) (p := fun i => (rows.getD i default).2.2) (f := fun i => V.int (cl rows i)) (bind := fun i m => put m "one" (tv (rows.getD i default)))
      S1.fx Subm.nil (Src.list (EvA.ww (Ev.a (nl S1.fx) (lst_sub S1.fx.sub xr1))) (Tgt.name (x := "one"))) (by rw [hn]; omega)
      ⟨fun i x u e => by (cases e), fun A C i u hA hu => ?_, fun C i h4 hC g F4 hi => ?_⟩ (by rfl) (by decide)).of (by rw [hn]; exact picked_mark)) fun β2 u h2 t2 sb2 xu fu S2 => ?_
  · have hi' : i < rows.length := by have := (List.getElem?_eq_some_iff.mp hu).1; rwa [hn] at this
    rw [tris_getD hi'] at hu
    cases hu
    exact TkL.name (cloc (by rfl))
  · exact ⟨Te.one (Tr.plain (Ev.p2 (r := rows.getD i default) (cnl F4))), fun _ => Ev.p1 (r := rows.getD i default) (cnl F4)⟩
  · have T2 := T1.sub sb2
    have W1 : Sub β β2 := fun b o e => sb2 b o (sb1 b o e)
    have X2l : Lst h2 l (refs as) := lst_refs X.lst fun o e => S2.inv _ o (.inr (.inl rfl)) e
    have X2r : Rw CI h2 as rows := X.rw.keep (fun q hq o e => by rw [X.rw.inst q hq] at e; cases e; exact S2.fx.sub _ _ (sb2 _ _ (ia1 q hq))) fun q hq o e => S2.inv _ o (.inr (.inr ⟨q, hq, rfl⟩)) e
    refine s_expr ?_
    obtain ⟨fd, gd, dd⟩ := T2.fn 11 (by decide)
    refine e_call (s := { s with heap := h2, toks := t2 }) hA S2.fx T2.bs T2.kin (by rfl) gd dd.1 (Ar.cons (u := .ref b) (nl S2.fx) Ar.nil) fun vs h3 t3 g3 pp => ?_
    have S3 := S2.gw g3
    have oL : ∀ q ∈ as, q.2 ≠ (dEnv (top 21) qual cd L f).locals := fun q hq e => (S2.out _ (.inr (.inr ⟨q, hq, rfl⟩))).1 (.inl e)
    refine spread_ok (s := { s with heap := h3, toks := t3 }) T2 hA dd S3.fx.sub pp (Bb.sub W1) (g3.lst X2l) (X2r.gw g3 oL) (fun q hq => (S3.out _ (.inr (.inr ⟨q, hq, rfl⟩))).2) (by omega) fun h4 t4 b4 R4 => ?_
    have S4 : St β2 (Wm p c l as) (fun _ => True) (dEnv (top 21) qual cd L f) h4 _ := S3.eff (b4.mono fun b hb => .inr (.inr hb)) (fun b hb => by
      by_cases hd : Wd as b
      · exact R4.wok b hd
      · obtain ⟨o, e, r⟩ := S3.ok b hb
        exact ⟨o, b4 b o hd e, r⟩) trivial fun _ _ _ x => x
    have l4 : Lst h4 l (refs as) := lst_refs (g3.lst X2l) fun o e => b4 _ o (rw_list X.rw X.lst) e
    have T4 : ∀ m, Fx β2 (dEnv (top 21) qual cd L f) h4 m → True := fun _ _ => trivial
    have hlen4 : (spreadP rows).length = rows.length := R4.len.symm.trans X.rw.len
    have e4 : spreadP rows = rows.map (spF rows) := spread_eq (ord_Rb bf) X.srt
    refine s_ret (s := { s with heap := h4, toks := t4 }) hA S4 (Ev.eqSame (us := tris (spreadP rows)) (EvL.told T2 S4.fx (by rfl) (nl S4.fx) (Bb.sub W1) l4 R4 oL (by omega)).a (((EvL.compOne (mc := [(listN, .ref u)]) (fun r => tv (spF rows r)) S4.fx (.cons (by rfl) .nil) (Ev.a (nl S4.fx) (lst_sub S4.fx.sub (lst_sub sb2 xr1))) (by omega) (by rfl) (by rfl) (by rfl) (by decide) (fun C h5 r hr hC g F5 => ?_))).of ?_).a ?_) fun v h5 t5 S5 hv => ?_
    · refine Ev.tri (Ar.cons (Ev.p0 (r := r) (cnl F5)) (Ar.cons (Ev.p1 (r := r) (cnl F5)) (Ar.cons ?_ Ar.nil)))
      show Ev prog w _ _ _ _ (.bool (markIn rows r.2.1))
      rw [← markL_contains]
      exact Ev.inInts (Ev.p1 (r := r) (cnl F5)) (Ev.a (cnc F5 (u := .ref u)) (lst_sub F5.sub xu))
    · rw [e4]
      unfold tris
      rw [List.map_map]
      rfl
    · intro u hu
      obtain ⟨r, _, rfl⟩ := List.mem_map.mp hu
      trivial
    · have hv : v = .bool true := hv
      subst hv
      exact q h5 t5 fun b o e => S5.fx.sub b o (W1 b o e)
end
end Mine

set_option Elab.async false
set_option maxRecDepth 100000
set_option linter.unusedVariables false
set_option autoImplicit false
namespace Mine
open PySem PySem.W PyProof.Rows PySem.Calls PySem.SeqAt

def forBody : Stmt → List Stmt
  | .For _ _ b .. => b
  | _ => []
def ifThen : Stmt → List Stmt
  | .If _ b .. => b
  | _ => []
def ifElse : Stmt → List Stmt
  | .If _ _ b .. => b
  | _ => []
/-- the rows of a deed -/
def turn6 : List Stmt := forBody (stAt (bodyOf (top 21)) 6)
def deed (n : Nat) : Stmt := stAt turn6 n

section
variable {prog : Program} {w : World} {k : Nat} {K : Frag} {mg : Str → Option Value} {CI CB : Addr} {β : Heap}

theorem s_assignC {env : Env} {A : Around} {s : Shared} {Q : Flow → Shared → Prop} {E : Value → Shared → Prop} {rest : List Stmt} {pos py : Pos} {y : Str} {value : Expr} (hv : isVar env y)
    (x : wpAny (model prog w) A (eval value env) (fun v s1 => ∃ u m1 β1, Fx β1 env s1.heap m1 ∧ Rep s1.heap v u ∧ ∀ h' t, Fx β1 env h' (put m1 y u) → Kp env no s1.heap h' → wpAny (model prog w) A (execs rest env) Q E { s1 with heap := h', toks := t }) E s)
    (hs : swapsWith value (some (.Name y py)) pos.line env = pure false := by rfl) : wpAny (model prog w) A (execs (.Assign [.Name y py] value pos :: rest) env) Q E s :=
  wpAny_execs_cons (wpAny_Assign_Name (wpAny_mono x (fun v s1 ⟨u, m1, β1, F1, r, q⟩ => store F1 hv r fun h2 t2 F2 k2 => q h2 t2 F2 k2) fun _ _ e => e) hs)
theorem spl_consC {env : Env} {A : Around} {s : Shared} {e : Expr} {es : List Expr} {pos : Pos} {Q : List Value → Shared → Prop} {E : Value → Shared → Prop}
    (x : wpAny (model prog w) A (eval e env) (fun v s1 => wpAny (model prog w) A (spliced (backTo pos (starEach es env))) (fun vs s2 => Q (v :: vs) s2) E s1) E s)
    (he : starEach (e :: es) env = (false, eval e env) :: starEach es env := by rfl) : wpAny (model prog w) A (spliced (backTo pos (starEach (e :: es) env))) Q E s := by
  rw [he]
  exact spliced_cons x
theorem e_addC {env : Env} {A : Around} {s : Shared} {l r : Expr} {pos : Pos} {a : Int} {Q : Value → Shared → Prop} {E : Value → Shared → Prop} (hA : Lv k A) (x : Ev prog w k env s.heap l (.int a))
    (y : ∀ h' t, Gw env.locals s.heap h' → wpAny (model prog w) A (eval r env) (fun v s1 => ∃ d tk, v = .int d tk ∧ ∀ tk t, Q (.int (a + d) tk) { s1 with toks := t }) E { s with heap := h', toks := t }) :
    wpAny (model prog w) A (eval (.BinOp l .Add r pos) env) Q E s :=
  wpAny_BinOp (x A hA s .refl _ _ fun v h1 t1 g1 ⟨_, e1⟩ => wpAny_mono (y h1 t1 g1) (fun v2 s2 ⟨d, tk, e2, q⟩ => by
    subst e1; subst e2; exact add_int (q _ _)) fun _ _ e => e)

theorem MS.mv {CI : Addr} {env : Env} {bf : Bool} {β : Heap} {p c l : Addr} {h h' : Heap} {r : Addr} {rows : List Tri} {as : List (Addr × Addr)} {N : Nat} {m : List (Str × V)} (x : MS CI env bf β p c l h r rows as N) (F : Fx β env h m) (P : Pn h' p c)
    (k : ∀ b o, ¬ Own env b → ¬ Wp p c b → h.get? b = some o → h'.get? b = some o) : MS CI env bf β p c l h' r rows as N := by
  have nb : ∀ b, Wb l as b → ¬ Wp p c b := fun b hb q => x.dis b q hb
  refine x.keep P (fun o e => k l o (x.out l (.inr (.inl rfl))).1 (nb l (.inl rfl)) e) (fun q hq o e => k _ o (F.notOwn (x.rw.inst q hq) (fun _ _ e => by cases e) fun _ e => by cases e) (fun hb => ?_) e)
    (fun q hq o e => k _ o (x.out _ (.inr (.inr ⟨q, hq, rfl⟩))).1 (nb _ (.inr ⟨q, hq, rfl⟩)) e) (fun o e => k r o x.nor.1 (fun q => x.nor.2 (.inl q)) e) fun a its it => ?_
  · obtain ⟨o, eo, r⟩ := x.pn.wok _ hb
    rw [x.rw.inst q hq] at eo; cases eo
    rcases r with ⟨_, _, d⟩ | ⟨_, _, _, d⟩ <;> cases d
  · obtain ⟨o, e, cc, n, d⟩ := id it
    exact ⟨o, k a o (F.notOwn e (fun _ _ q => by rw [d] at q; cases q) fun _ q => by rw [d] at q; cases q) (fun hb => x.pn.wok.notTup hb its it) e, cc, n, d⟩
theorem MS.gw {CI : Addr} {env : Env} {bf : Bool} {β : Heap} {p c l : Addr} {h h' : Heap} {r : Addr} {rows : List Tri} {as : List (Addr × Addr)} {N : Nat} {m : List (Str × V)} {I : Heap → Prop} (x : MS CI env bf β p c l h r rows as N) (S : St β (Wm p c l as) I env h m) (g : Gw env.locals h h') : MS CI env bf β p c l h' r rows as N :=
  x.mv S.fx (x.pn.kw fun b o hb e => S.kwGw g b o (.inl hb) e) fun b o nO _ e => g.keep b o (fun q => nO (.inl q)) e
theorem MS.kp {CI : Addr} {env : Env} {bf : Bool} {β : Heap} {p c l : Addr} {h h' : Heap} {r : Addr} {rows : List Tri} {as : List (Addr × Addr)} {N : Nat} {m : List (Str × V)} {I : Heap → Prop} (x : MS CI env bf β p c l h r rows as N) (S : St β (Wm p c l as) I env h m) (g : Kp env no h h') : MS CI env bf β p c l h' r rows as N :=
  x.mv S.fx (x.pn.kw fun b o hb e => S.kwKp g b o (.inl hb) e) fun b o nO _ e => g b o nO (fun q => q) e
theorem MS.st {CI : Addr} {env : Env} {bf : Bool} {β : Heap} {p c l : Addr} {h : Heap} {r : Addr} {rows : List Tri} {as : List (Addr × Addr)} {N : Nat} {m : List (Str × V)} (x : MS CI env bf β p c l h r rows as N) (F : Fx β env h m) : St β (Wm p c l as) (fun _ => True) env h m :=
  ⟨F, x.out, x.wok, trivial, fun _ _ _ x => x⟩
def mD (sc p : Addr) (bf : Bool) (b r : Addr) (way beg many : Nat) : List (Str × V) := mL sc p bf b r ++ ([("begin", .int beg), ("way", .int way), ("many", .int many)] : List (Str × V))

/-- a deed's draws -/
theorem turn_head {A : Around} {s : Shared} {Q : Flow → Shared → Prop} {E : Value → Shared → Prop} {qual : Str} {cd : Value} {L f : Addr} {I : Heap → Prop} {sc p c l b r : Addr} {bf : Bool} {rows : List Tri} {as : List (Addr × Addr)} {N : Nat} (T : Tx K mg CI CB β) (hA : Lv (k + 1) A)
    (S : St β (Wm p c l as) I (dEnv (top 21) qual cd L f) s.heap (mL sc p bf b r)) (X : MS CI (dEnv (top 21) qual cd L f) bf β p c l s.heap r rows as N) (hN : N ≤ 400)
    (qb : ∀ h' t, St β (Wm p c l as) (fun _ => True) (dEnv (top 21) qual cd L f) h' (mL sc p bf b r) → MS CI (dEnv (top 21) qual cd L f) bf β p c l h' r rows as N → Q .brk { s with heap := h', toks := t })
    (qn : ∀ h' t (way beg many : Nat), 1 ≤ many → beg + many ≤ rows.length → St β (Wm p c l as) (fun _ => True) (dEnv (top 21) qual cd L f) h' (mD sc p bf b r way beg many) → MS CI (dEnv (top 21) qual cd L f) bf β p c l h' r rows as N →
      wpAny (model prog w) A (execs (turn6.drop 3) (dEnv (top 21) qual cd L f)) Q E { s with heap := h', toks := t }) :
    wpAny (model prog w) A (execs turn6 (dEnv (top 21) qual cd L f)) Q E s := by
  have hn : (tris rows).length = rows.length := tris_length
  have hlen := X.len
  have hWp : ∀ b, Wp p c b → Wm p c l as b := fun b hb => .inl hb
  refine s_if0 hA S (Tr.eqNil (Ev.a (nl S.fx) X.row) (EvL.disp Ar.nil (by decide)).a) (fun e h2 t2 S2 g2 => ?_) (fun e h2 t2 S2 g2 => ?_)
  · have X2 := X.gw S g2
    exact x_brk (qb h2 t2 (X2.st S2.fx) X2)
  · have X2 := X.gw S g2
    have hpos : 0 < rows.length := by
      cases rows with
      | nil => cases e
      | cons _ _ => exact Nat.succ_pos _
    refine s_tupleS (s := { s with heap := h2, toks := t2 }) (xs := ["way", "begin"]) hA.hand (fun x hx => ?_) (by decide) (spl_consC (e_draw (s := { s with heap := h2, toks := t2 }) (n := 4) T hA S2 (by rfl) X2.pn hWp (nl S2.fx) Ev.int (by decide) (by decide) fun d1 h3 t3 tk3 hd1 S3 P3 k3 T3 => ?_))
    · rcases List.mem_cons.mp hx with rfl | hx
      · exact .inl (by rfl)
      · rw [List.mem_singleton.mp hx]; exact .inl (by rfl)
    · have X3 := X2.mv S2.fx P3 fun b o nO nW e => k3 b o nW (fun q => nO (.inl q)) e
      refine spl_consC (e_draw (s := { s with heap := h3, toks := t3 }) (n := rows.length) T hA S3 (by rfl) X3.pn hWp (nl S3.fx) (Ev.cast (Ev.len S3.fx T.bs (by rfl) (T.none _ (by decide)) (Ev.a (nl S3.fx) X3.row) (by rw [hn]; omega)) (by rw [hn])) hpos (by omega) fun d2 h4 t4 tk4 hd2 S4 P4 k4 T4 => ?_)
      have X4 := X3.mv S3.fx P4 fun b o nO nW e => k4 b o nW (fun q => nO (.inl q)) e
      refine spl_nil ⟨[.int d1, .int d2], _, _, S4.fx, rfl, .cons ⟨_, rfl⟩ (.cons ⟨_, rfl⟩ .nil), fun h5 t5 F5 kp5 => ?_⟩
      have X5 := X4.kp S4 kp5
      let m5 : List (Str × V) := mL sc p bf b r ++ ([("begin", .int (d2 : Int)), ("way", .int (d1 : Int))] : List (Str × V))
      have F5 : Fx β (dEnv (top 21) qual cd L f) h5 m5 := F5
      have S5 := X5.st F5
      refine s_assignC (s := { s with heap := h5, toks := t5 }) (.inl (by rfl)) (e_addC (s := { s with heap := h5, toks := t5 }) (k := k + 1) (a := 1) hA Ev.int fun h6 t6 g6 => ?_)
      have S6 := S5.gw g6
      have X6 := X5.gw S5 g6
      refine e_draw (s := { s with heap := h6, toks := t6 }) (n := rows.length - d2) T hA S6 (by rfl) X6.pn hWp (nl S6.fx) (Ev.cast (Ev.sub (Ev.len S6.fx T.bs (by rfl) (T.none _ (by decide)) (Ev.a (nl S6.fx) X6.row) (by rw [hn]; omega)) (nl S6.fx (u := .int (d2 : Int)))) (by rw [hn]; omega)) (by omega) (by omega) fun d3 h7 t7 tk7 hd3 S7 P7 k7 T7 => ?_
      have X7 := X6.mv S6.fx P7 fun b o nO nW e => k7 b o nW (fun q => nO (.inl q)) e
      refine ⟨d3, tk7, rfl, fun tk8 t8 => ⟨.int ((1 + d3 : Nat) : Int), m5, β, S7.fx, ⟨tk8, by rw [show ((1 + d3 : Nat) : Int) = 1 + (d3 : Int) by omega]⟩, fun h9 t9 F9 kp9 => ?_⟩⟩
      have X9 := X7.kp S7 kp9
      have F9 : Fx β (dEnv (top 21) qual cd L f) h9 (mD sc p bf b r d1 d2 (1 + d3)) := F9
      exact qn h9 t9 d1 d2 (1 + d3) (by omega) (by omega) (X9.st F9) X9
end
end Mine

set_option Elab.async false
set_option maxRecDepth 100000
set_option linter.unusedVariables false
set_option autoImplicit false
namespace Mine
open PySem PySem.W PyProof.Rows PySem.Calls PySem.SeqAt

section
variable {prog : Program} {w : World} {k : Nat} {K : Frag} {mg : Str → Option Value} {CI CB : Addr} {β : Heap}

theorem MS.re {CI : Addr} {env : Env} {bf : Bool} {β : Heap} {p c l : Addr} {h h' : Heap} {r : Addr} {rows : List Tri} {as : List (Addr × Addr)} {N : Nat} {m : List (Str × V)} (x : MS CI env bf β p c l h r rows as N) (F : Fx β env h m) (kw : KW (Wm p c l as) h h')
    (k : ∀ b o, ¬ Own env b → ¬ Wm p c l as b → h.get? b = some o → h'.get? b = some o) : MS CI env bf β p c l h' r rows as N :=
  x.mv F (x.pn.kw fun b o hb e => kw b o (.inl hb) e) fun b o nO _ e => by
    by_cases hb : Wm p c l as b
    · exact kw b o hb e
    · exact k b o nO hb e
theorem flat_tris {rw : List Tri} : ∀ u ∈ tris rw, u.flat := fun u hu => by
  obtain ⟨r, _, rfl⟩ := List.mem_map.mp hu
  trivial
theorem flat_ints {ns : List Int} : ∀ u ∈ ns.map V.int, u.flat := fun u hu => by
  obtain ⟨r, _, rfl⟩ := List.mem_map.mp hu
  trivial
theorem flat_nats {ns : List Nat} : ∀ u ∈ nats ns, u.flat := fun u hu => by
  obtain ⟨r, _, rfl⟩ := List.mem_map.mp hu
  trivial

/-- the law's looks behind a deed -/
theorem turn_checks {A : Around} {s : Shared} {Q : Flow → Shared → Prop} {E : Value → Shared → Prop} {qual : Str} {cd : Value} {L f : Addr} {I : Heap → Prop} {sc p c l b r : Addr} {bf : Bool} {rows : List Tri} {as : List (Addr × Addr)} {N : Nat} (T : Tx K mg CI CB β) (hA : Lv (k + 1) A)
    (Bb : Bo CB β b l bf) (S : St β (Wm p c l as) I (dEnv (top 21) qual cd L f) s.heap (mL sc p bf b r)) (X : MS CI (dEnv (top 21) qual cd L f) bf β p c l s.heap r rows as N) (hN : N ≤ 60)
    (q : ∀ h' t, Fx β (dEnv (top 21) qual cd L f) h' (mL sc p bf b r) → MS CI (dEnv (top 21) qual cd L f) bf β p c l h' r rows as N → Q .next { s with heap := h', toks := t }) :
    wpAny (model prog w) A (execs (turn6.drop 4) (dEnv (top 21) qual cd L f)) Q E s := by
  have hlen := X.len
  obtain ⟨β1, sb1, S1, all1⟩ := S.rebase
  have T1 := T.sub sb1
  have S1 : St β1 (Wm p c l as) (KW (Wm p c l as) s.heap) (dEnv (top 21) qual cd L f) s.heap (mL sc p bf b r) := S1.imp .refl fun _ _ a b => b.trans a
  have oL : ∀ q ∈ as, q.2 ≠ (dEnv (top 21) qual cd L f).locals := fun q hq e => (X.out _ (.inr (.inr ⟨q, hq, rfl⟩))).1 (.inl e)
  refine s_if0 hA S1 (Tr.or2 (Tr.neSame (EvL.told T1 S1.fx (by rfl) (nl S1.fx) (Bb.sub sb1) X.lst X.rw oL (by omega)).a (Ev.a (nl S1.fx) X.row) flat_tris) fun _ => Tr.neSame (us := nats (endsP rows)) (EvL.groupEnds T1 S1.fx (by rfl) (nl S1.fx) (Bb.sub sb1) X.lst X.rw oL (by omega)).a (EvL.lawEnds T1 S1.fx (by rfl) (nl S1.fx) X.row (by omega)).a flat_nats)
    (fun e h2 t2 S2 g2 => by cases e) fun e h2 t2 S2 g2 => ?_
  have X2 : MS CI (dEnv (top 21) qual cd L f) bf β p c l h2 r rows as N := X.re S.fx S2.inv fun b o nO nW e => S2.fx.sub _ _ (all1 b o nO nW e)
  refine s_compOne (s := { s with heap := h2, toks := t2 }) (mc := []) (fun r => V.int r.2.1) hA S2 Subm.nil (Ev.a (nl S2.fx) X2.row) (by omega) (by rfl) (by rfl) (by rfl) (by rfl) (by decide) (fun C h3 r hr hC g F3 => Ev.p1 (r := r) (cnl F3)) fun β3 lc h3 t3 sb3 xc fc S3 => ?_
  have X3 : MS CI (dEnv (top 21) qual cd L f) bf β p c l h3 r rows as N := X.re S.fx S3.inv fun b o nO nW e => S3.fx.sub _ _ (sb3 _ _ (all1 b o nO nW e))
  have T3 := T1.sub sb3
  have xc : Lst β3 lc ((cls rows).map V.int) := by
    unfold cls
    rw [List.map_map]
    exact xc
  have hcl : (cls rows).length = rows.length := by simp [cls]
  refine s_if0 (s := { s with heap := h3, toks := t3 }) hA S3 (Tr.neSame (us := (cls rows).map V.int) (Ev.a (nl S3.fx) (lst_sub S3.fx.sub xc)) ((EvL.sortedR (b := bf) S3.fx T3.bs (by rfl) (T3.none _ (by decide)) (Ev.a (nl S3.fx) (lst_sub S3.fx.sub xc)) (nl S3.fx) (by omega)).mono fun v h₀ h' ⟨l', ns', e1, e2, e3, e4⟩ => ?_) flat_ints)
    (fun e h4 t4 S4 g4 => by cases e) fun e h4 t4 S4 g4 => ?_
  · have : ns' = cls rows := perm_sorted (ord_Rb bf) e3 (ordered_Rb.mp e4) (srt_cls.mp X.srt)
    subst this
    exact ⟨l', e1, e2⟩
  · have X4 : MS CI (dEnv (top 21) qual cd L f) bf β p c l h4 r rows as N := X.re S.fx S4.inv fun b o nO nW e => S4.fx.sub _ _ (sb3 _ _ (all1 b o nO nW e))
    exact x_nil (q h4 t4 (((S4.fx.less (put_more (by rfl))).lower sb3).lower sb1) X4)
end
end Mine

set_option Elab.async false
set_option maxRecDepth 100000
set_option linter.unusedVariables false
set_option autoImplicit false
namespace Mine
open PySem PySem.W PyProof.Rows PySem.Calls PySem.SeqAt

section
variable {prog : Program} {w : World} {k : Nat} {K : Frag} {mg : Str → Option Value} {CI CB : Addr} {β : Heap}

theorem MS.of {env : Env} {bf : Bool} {p c l : Addr} {h : Heap} {r : Addr} {rows : List Tri} {as : List (Addr × Addr)} {N : Nat} {m : List (Str × V)} {I : Heap → Prop} (S : St β (Wm p c l as) I env h m) (P : Pn h p c) (xl : Lst h l (refs as)) (xr : Rw CI h as rows) (xo : Lst β r (tris rows))
    (hs : Srt (Rb bf) rows) (hb : ∀ x ∈ rows, x.2.1 ≤ 10 ^ 9) (hl : rows.length ≤ N) (hd : ∀ b, Wp p c b → ¬ Wb l as b) : MS CI env bf β p c l h r rows as N :=
  ⟨P, xl, xr, lst_sub S.fx.sub xo, hs, hb, hl, ⟨(fun q => by obtain ⟨vs, n, e, _⟩ := xo; exact S.fx.notOwnβ e q), lst_notW S xo⟩, S.out, hd⟩
theorem MS.low {env : Env} {bf : Bool} {β' : Heap} {p c l : Addr} {h : Heap} {r : Addr} {rows : List Tri} {as : List (Addr × Addr)} {N : Nat} (x : MS CI env bf β' p c l h r rows as N) (s : Sub β β') : MS CI env bf β p c l h r rows as N := x.base fun b hb => no_get s (x.out b hb).2
theorem MS.inst {env : Env} {bf : Bool} {p c l : Addr} {h : Heap} {r : Addr} {rows : List Tri} {as : List (Addr × Addr)} {N : Nat} {m : List (Str × V)} (x : MS CI env bf β p c l h r rows as N) (F : Fx β env h m) : ∀ q ∈ as, ¬ Own env q.1 ∧ ¬ Wm p c l as q.1 := fun q hq =>
  ⟨F.notOwn (x.rw.inst q hq) (fun _ _ e => by cases e) (fun _ e => by cases e), fun hb => by
    rcases hb with hb | hb
    · obtain ⟨o, eo, r⟩ := x.pn.wok _ hb
      rw [x.rw.inst q hq] at eo; cases eo
      rcases r with ⟨_, _, d⟩ | ⟨_, _, _, d⟩ <;> cases d
    · rcases hb with hb | hb
      · obtain ⟨vs, n, e, _⟩ := x.lst
        rw [← hb, x.rw.inst q hq] at e; cases e
      · exact rw_inst x.rw q hq hb⟩

/-- a stretch merged or hung, and the law's own list of it -/
theorem arm_two {A : Around} {s : Shared} {Q : Flow → Shared → Prop} {E : Value → Shared → Prop} {env : Env} {I : Heap → Prop} {m : List (Str × V)} {p c l r : Addr} {bf : Bool} {rows rows' : List Tri} {as : List (Addr × Addr)} {N : Nat} {e1 value : Expr} {py pos1 pos2 : Pos} (hA : Lv k A)
    (S : St β (Wm p c l as) I env s.heap m) (X : MS CI env bf β p c l s.heap r rows as N) (hr : isVar env "row")
    (y : ∀ β1 (R : Value → Shared → Prop) (E : Value → Shared → Prop), Sub β β1 → St β1 (Wm p c l as) (KW (Wm p c l as) s.heap) env s.heap m → (∀ q ∈ as, β1.get? q.2 = none) → (∀ v h3 h4 t4, Gw env.locals s.heap h3 → But (Wd as) h3 h4 → Rw CI h4 as rows' → R v { s with heap := h4, toks := t4 }) → wpAny (model prog w) A (eval e1 env) R E s)
    (z : ∀ β1 h, Sub β β1 → Fx β1 env h m → Lst β1 r (tris rows) → EvL prog w k env h value (tris rows'))
    (hs : Srt (Rb bf) rows') (hb : ∀ x ∈ rows', x.2.1 ≤ 10 ^ 9) (hl : rows'.length ≤ N)
    (q : ∀ h' t r', (∀ m', (∀ x u, get m' x = some u → get (put m "row" (.ref r')) x = some u) → Fx β env h' m') → MS CI env bf β p c l h' r' rows' as N → Q .next { s with heap := h', toks := t })
    (hi : interactive env = false := by rfl) (hs1 : swapsWith e1 none pos1.line env = pure false := by rfl) (hs2 : swapsWith value (some (.Name "row" py)) pos2.line env = pure false := by rfl) :
    wpAny (model prog w) A (execs (.Expr e1 pos1 :: .Assign [.Name "row" py] value pos2 :: []) env) Q E s := by
  obtain ⟨β1, sb1, S1, all1⟩ := S.rebase
  have xo1 : Lst β1 r (tris rows) := lst_base S all1 X.row X.nor.1 X.nor.2
  have S1 : St β1 (Wm p c l as) (KW (Wm p c l as) s.heap) env s.heap m := S1.imp .refl fun _ _ a b => b.trans a
  have ia1 : ∀ q ∈ as, β1.get? q.1 = some (instObj CI q.2) := fun q hq => let ⟨a, b⟩ := X.inst S.fx q hq; all1 _ _ a b (X.rw.inst q hq)
  refine s_expr (y β1 _ _ sb1 S1 (fun q hq => (S1.out _ (.inr (.inr ⟨q, hq, rfl⟩))).2) fun v h3 h4 t4 g3 b4 R4 => ?_) hi hs1
  have S3 := S1.gw g3
  have X3 := X.gw S g3
  have nd : ∀ b, Wp p c b → ¬ Wd as b := fun b hb hd => X.dis b hb (.inr hd)
  have P4 : Pn h4 p c := X3.pn.kw fun b o hb e => b4 b o (nd b hb) e
  have l4 : Lst h4 l (refs as) := lst_refs X3.lst fun o e => b4 _ o (rw_list X3.rw X3.lst) e
  have S4 : St β1 (Wm p c l as) (KW (Wm p c l as) h4) env h4 m := S3.eff (b4.mono fun b hb => .inr (.inr hb)) (fun b hb => hb.elim (P4.wok b) (wb_wok l4 R4 b)) .refl fun _ _ a b => b.trans a
  refine s_assignL (s := { s with heap := h4, toks := t4 }) hA S4 hr (z β1 h4 sb1 S4.fx xo1) (fun β2 r' h5 t5 sb2 xr' fr S5 => x_nil ?_) hs2
  refine q h5 t5 r' (fun m' hm => ((S5.fx.less hm).lower sb2).lower sb1) ((MS.of S5 (P4.kw fun b o hb e => S5.inv b o (.inl hb) e) (lst_refs l4 fun o e => S5.inv _ o (.inr (.inl rfl)) e) (R4.kw (fun q hq => S5.fx.sub _ _ (sb2 _ _ (ia1 q hq))) fun b o hb e => S5.inv b o (.inr (.inr hb)) e) xr' hs hb hl X.dis).low fun b o e => sb2 b o (sb1 b o e))

theorem arm_merge {A : Around} {s : Shared} {Q : Flow → Shared → Prop} {E : Value → Shared → Prop} {qual : Str} {cd : Value} {L f : Addr} {I : Heap → Prop} {sc p c l b r : Addr} {bf : Bool} {rows : List Tri} {as : List (Addr × Addr)} {N way beg many : Nat} (T : Tx K mg CI CB β) (hA : Lv (k + 2) A)
    (Bb : Bo CB β b l bf) (S : St β (Wm p c l as) I (dEnv (top 21) qual cd L f) s.heap (mD sc p bf b r way beg many)) (X : MS CI (dEnv (top 21) qual cd L f) bf β p c l s.heap r rows as N) (hN : N ≤ 60) (hmany : 1 ≤ many) (hbeg : beg + many ≤ rows.length)
    (q : ∀ h' t r' rows' as', Fx β (dEnv (top 21) qual cd L f) h' (mL sc p bf b r') → MS CI (dEnv (top 21) qual cd L f) bf β p c l h' r' rows' as' N → Q .next { s with heap := h', toks := t }) :
    wpAny (model prog w) A (execs (ifThen (deed 3)) (dEnv (top 21) qual cd L f)) Q E s := by
  have hlen := X.len
  have em := merge_eq (rw := rows) (i := beg) (j := beg + many) (by omega) hbeg
  refine arm_two (rows' := lmergedP rows beg (beg + many)) hA S X (.inl (by rfl)) (fun β1 R E' sb1 S1 n1 qq => ?_) (fun β1 h sb1 F1 xo1 => ?_) (merged_srt (ord_Rb bf) X.srt (by omega) hbeg) (merged_all (P := fun x => x ≤ 10 ^ 9) X.bnd (by omega) hbeg) (by rw [lmergedP_length (by omega) hbeg]; exact hlen) fun h' t r' hF X' => q h' t r' _ _ (hF _ fun z v e => (get_append e : get (mL sc p bf b r' ++ ([("begin", .int beg), ("way", .int way), ("many", .int many)] : List (Str × V))) z = some v)) X'
  · have T1 := T.sub sb1
    obtain ⟨fd, gd, dd⟩ := T1.fn 7 (by decide)
    refine e_call hA S1.fx T1.bs T1.kin (by rfl) gd dd.1 (Ar.cons (u := .ref b) (nl S1.fx) (Ar.cons (u := .int (beg : Int)) (nl S1.fx) (Ar.cons (u := .int ((beg + many : Nat) : Int)) (Ev.cast (Ev.add (nl S1.fx (u := .int (beg : Int))) (nl S1.fx (u := .int (many : Int)))) (by omega)) Ar.nil))) fun vs h3 t3 g3 pp => ?_
    have X3 := X.gw S g3
    refine merge_ok (s := { s with heap := h3, toks := t3 }) T1 hA dd (S1.gw g3).fx.sub pp (Bb.sub sb1) X3.lst X3.rw n1 (by omega) hbeg (by omega) fun h4 t4 b4 R4 => ?_
    rw [em] at R4
    exact qq _ h3 h4 t4 g3 b4 R4
  · have T1 := T.sub sb1
    exact EvL.lawMerged T1 F1 (by rfl) (Ar.cons (u := .ref r) (nl F1) (Ar.cons (u := .int (beg : Int)) (nl F1) (Ar.cons (u := .int ((beg + many : Nat) : Int)) (Ev.cast (Ev.add (nl F1 (u := .int (beg : Int))) (nl F1 (u := .int (many : Int)))) (by omega)) Ar.nil))) xo1 (by omega) hbeg (by omega)

theorem arm_hang {A : Around} {s : Shared} {Q : Flow → Shared → Prop} {E : Value → Shared → Prop} {qual : Str} {cd : Value} {L f : Addr} {I : Heap → Prop} {sc p c l b r : Addr} {bf : Bool} {rows : List Tri} {as : List (Addr × Addr)} {N way beg many : Nat} (T : Tx K mg CI CB β) (hA : Lv (k + 2) A)
    (Bb : Bo CB β b l bf) (S : St β (Wm p c l as) I (dEnv (top 21) qual cd L f) s.heap (mD sc p bf b r way beg many)) (X : MS CI (dEnv (top 21) qual cd L f) bf β p c l s.heap r rows as N) (hN : N ≤ 60) (hmany : 1 ≤ many) (hbeg : beg + many ≤ rows.length)
    (q : ∀ h' t r' rows' as', Fx β (dEnv (top 21) qual cd L f) h' (mL sc p bf b r') → MS CI (dEnv (top 21) qual cd L f) bf β p c l h' r' rows' as' N → Q .next { s with heap := h', toks := t }) :
    wpAny (model prog w) A (execs (ifThen (stAt (ifElse (deed 3)) 0)) (dEnv (top 21) qual cd L f)) Q E s := by
  have hlen := X.len
  have em := hang_eq (rw := rows) (i := beg) (j := beg + many) (by omega) hbeg X.bnd
  have ec := hung_cls (rw := rows) (i := beg) (j := beg + many) (by omega)
  refine arm_two (rows' := lhungP rows beg (beg + many)) hA S X (.inl (by rfl)) (fun β1 R E' sb1 S1 n1 qq => ?_) (fun β1 h sb1 F1 xo1 => ?_) (srt_cls.mpr (by rw [ec]; exact srt_cls.mp X.srt)) (all_cls (P := fun x => x ≤ 10 ^ 9) |>.mpr (by rw [ec]; exact all_cls (P := fun x => x ≤ 10 ^ 9) |>.mp X.bnd)) (by rw [hung_length (by omega)]; exact hlen) fun h' t r' hF X' => q h' t r' _ _ (hF _ fun z v e => (get_append e : get (mL sc p bf b r' ++ ([("begin", .int beg), ("way", .int way), ("many", .int many)] : List (Str × V))) z = some v)) X'
  · have T1 := T.sub sb1
    obtain ⟨fd, gd, dd⟩ := T1.fn 8 (by decide)
    refine e_call hA S1.fx T1.bs T1.kin (by rfl) gd dd.1 (Ar.cons (u := .ref b) (nl S1.fx) (Ar.cons (u := .int (beg : Int)) (nl S1.fx) (Ar.cons (u := .int ((beg + many : Nat) : Int)) (Ev.cast (Ev.add (nl S1.fx (u := .int (beg : Int))) (nl S1.fx (u := .int (many : Int)))) (by omega)) Ar.nil))) fun vs h3 t3 g3 pp => ?_
    have X3 := X.gw S g3
    refine hang_ok (s := { s with heap := h3, toks := t3 }) T1 hA dd (S1.gw g3).fx.sub pp (Bb.sub sb1) X3.lst X3.rw n1 (by omega) hbeg (by omega) fun h4 t4 b4 R4 => ?_
    rw [em] at R4
    exact qq _ h3 h4 t4 g3 b4 R4
  · have T1 := T.sub sb1
    exact EvL.lawHung T1 F1 (by rfl) (Ar.cons (u := .ref r) (nl F1) (Ar.cons (u := .int (beg : Int)) (nl F1) (Ar.cons (u := .int ((beg + many : Nat) : Int)) (Ev.cast (Ev.add (nl F1 (u := .int (beg : Int))) (nl F1 (u := .int (many : Int)))) (by omega)) Ar.nil))) xo1 (by omega) hbeg (by omega)
end
end Mine

set_option Elab.async false
set_option maxRecDepth 100000
set_option linter.unusedVariables false
set_option autoImplicit false
set_option maxHeartbeats 2000000
namespace Mine
open PySem PySem.W PyProof.Rows PySem.Calls PySem.SeqAt

section
variable {prog : Program} {w : World} {k : Nat} {K : Frag} {mg : Str → Option Value} {CI CB : Addr} {β : Heap}

/-- [e0, e1, e2, e3], lists of ints -/
theorem Gr.disp4 {env : Env} {h : Heap} {e0 e1 e2 e3 : Expr} {g0 g1 g2 g3 : List Int} {pos : Pos} (x0 : EvL prog w k env h e0 (g0.map V.int)) (x1 : EvL prog w k env h e1 (g1.map V.int)) (x2 : EvL prog w k env h e2 (g2.map V.int)) (x3 : EvL prog w k env h e3 (g3.map V.int))
    (h0 : starEach [e0, e1, e2, e3] env = (false, eval e0 env) :: starEach [e1, e2, e3] env := by rfl) (h1 : starEach [e1, e2, e3] env = (false, eval e1 env) :: starEach [e2, e3] env := by rfl) (h2 : starEach [e2, e3] env = (false, eval e2 env) :: starEach [e3] env := by rfl) (h3 : starEach [e3] env = (false, eval e3 env) :: starEach [] env := by rfl) :
    Gr prog w k env h (.List [e0, e1, e2, e3] pos) fun v h₀ h' => ∃ l ls, v = .ref l ∧ Lst h' l (ls.map V.ref) ∧ Paired (fun a gs => Lst h' a (gs.map V.int) ∧ h₀.get? a = none) ls [g0, g1, g2, g3] ∧ h₀.get? l = none :=
  fun A hA s g Q E q => by
    refine List_ (spl_cons hA (x0.gw g) (fun v0 a0 t0 k0 ⟨l0, e0, y0, f0⟩ => spl_cons (s := { s with heap := a0, toks := t0 }) hA ((x1.gw g).gw k0) (fun v1 a1 t1 k1 ⟨l1, e1, y1, f1⟩ => spl_cons (s := { s with heap := a1, toks := t1 }) hA (((x2.gw g).gw k0).gw k1) (fun v2 a2 t2 k2 ⟨l2, e2, y2, f2⟩ =>
      spl_cons (s := { s with heap := a2, toks := t2 }) hA ((((x3.gw g).gw k0).gw k1).gw k2) (fun v3 a3 t3 k3 ⟨l3, e3, y3, f3⟩ => spl_nil ?_) h3) h2) h1) h0)
    subst e0; subst e1; subst e2; subst e3
    refine wpAny_newObj_type (q _ _ _ (k0.trans (k1.trans (k2.trans (k3.trans (Gw.push _))))) ⟨_, [l0, l1, l2, l3], rfl, lst_new (.cons rfl (.cons rfl (.cons rfl (.cons rfl .nil)))), ?_, k0.fresh (k1.fresh (k2.fresh (k3.fresh get_new)))⟩) (by show 4 ≤ sizeLine; rw [sizeLine_eq]; omega)
    have kp : Gw env.locals a3 _ := Gw.push ({ cls := .type "list", data := .seq ([Value.ref l0, .ref l1, .ref l2, .ref l3] : List Value).toArray } : Obj)
    exact .cons ⟨kp.lst (k3.lst (k2.lst (k1.lst y0))), f0⟩ (.cons ⟨kp.lst (k3.lst (k2.lst y1)), k0.fresh f1⟩ (.cons ⟨kp.lst (k3.lst y2), k0.fresh (k1.fresh f2)⟩ (.cons ⟨kp.lst y3, k0.fresh (k1.fresh (k2.fresh f3))⟩ .nil)))

theorem noTri_refs {ls : List Addr} : ∀ u ∈ ls.map V.ref, ∀ g c b, u ≠ .tri g c b := fun u hu g c b e => by
  obtain ⟨a, _, h⟩ := List.mem_map.mp hu
  rw [e] at h; cases h
/-- one of four lists drawn -/
theorem e_glyphs {A : Around} {s : Shared} {env : Env} {m : List (Str × V)} {W : Addr → Prop} {I : Heap → Prop} {e0 e1 e2 e3 x1 x2 : Expr} {g0 g1 g2 g3 : List Int} {pp pos pos1 pos2 : Pos} {p c : Addr} {Q : Value → Shared → Prop} {E : Value → Shared → Prop} (T : Tx K mg CI CB β) (hA : Lv (k + 1) A) (S : St β W I env s.heap m) (hx : env.kindOf "_law_draw" = some .globalImplicit) (P : Pn s.heap p c) (hW : ∀ b, Wp p c b → W b)
    (G : Gr prog w (k + 1) env s.heap (.List [e0, e1, e2, e3] pos1) fun v h₀ h' => ∃ l ls, v = .ref l ∧ Lst h' l (ls.map V.ref) ∧ Paired (fun a gs => Lst h' a (gs.map V.int) ∧ h₀.get? a = none) ls [g0, g1, g2, g3] ∧ h₀.get? l = none)
    (z : ∀ h, Fx β env h m → Ev prog w (k + 1) env h x1 (.ref p)) (y : ∀ h, Ev prog w (k + 1) env h x2 (.int (4 : Nat)))
    (q : ∀ gl gs h' t, gs ∈ [g0, g1, g2, g3] → Lst h' gl (gs.map V.int) → s.heap.get? gl = none → St β W (KW W h') env h' m → Pn h' p c → (∀ b o, ¬ Wp p c b → b ≠ env.locals → s.heap.get? b = some o → h'.get? b = some o) → Q (.ref gl) { s with heap := h', toks := t })
    (he : starEach [x1, x2] env = (false, eval x1 env) :: starEach [x2] env := by rfl) (he2 : starEach [x2] env = (false, eval x2 env) :: starEach [] env := by rfl) (hplain : (backTo pos (starEach [x2] env)).any (·.1) = false := by rfl)
    (hs : ∀ o j t, subscripted (.Call (.Name "_law_draw" pp) [x1, x2] [] pos) false o (.int j t) = operate [o, .int j t] (getItem o (.int j t)) := by intro _ _ _; with_unfolding_all rfl) :
    wpAny (model prog w) A (eval (.Subscript (.List [e0, e1, e2, e3] pos1) (.Call (.Name "_law_draw" pp) [x1, x2] [] pos) pos2) env) Q E s := by
  refine Subscript_ (G A hA s .refl _ _ fun v h1 t1 k1 ⟨l, ls, e, xl, pl, fl⟩ => ?_)
  subst e
  have S1 := S.gw k1
  have P1 : Pn h1 p c := P.kw fun b o hb e => S.kwGw k1 b o (hW b hb) e
  refine e_draw (s := { s with heap := h1, toks := t1 }) (n := 4) T hA S1 hx P1 hW (z h1 S1.fx) (y h1) (by decide) (by decide) (fun d h2 t2 tk hd S2 P2 k2 T2 => ?_) he he2 hplain
  have nf : ∀ {a : Addr}, s.heap.get? a = none → ¬ Wp p c a ∧ a ≠ env.locals := fun f => ⟨fun hb => (S.fresh f).2 (hW _ hb), fun hb => (S.fresh f).1 (.inl hb)⟩
  have x2 : Lst h2 l (ls.map V.ref) := ints_lst xl noTri_refs fun o e => k2 l o (nf fl).1 (nf fl).2 e
  have hls : ls.length = 4 := (paired_length pl).trans rfl
  obtain ⟨vs, il, pv⟩ := x2.isList
  have hd' : d < ls.length := by omega
  obtain ⟨v, hv, rv⟩ := paired_get pv (i := d) (u := .ref ls[d]) (by simp [hd'])
  cases rv
  have hg : ∃ gs, ([g0, g1, g2, g3] : List (List Int))[d]? = some gs := ⟨[g0, g1, g2, g3][d], by simp [hd]⟩
  obtain ⟨gs, hgs⟩ := hg
  obtain ⟨a, ha, xa, fa⟩ := paired_get pl hgs
  have ea : a = ls[d] := by
    rw [List.getElem?_eq_getElem hd'] at ha
    exact (Option.some.inj ha).symm
  subst ea
  refine tail_any (s := { s with heap := h2, toks := t2 }) il.typeIs slot_list_getitem.lookup (wpAny_getItem_list il (by omega) (by omega) (by simpa using hv) (q _ gs h2 t2 (List.mem_of_getElem? hgs) (ints_lst xa noTri_ints fun o e => k2 _ o (nf fa).1 (nf fa).2 e) fa S2 P2 fun b o nb nL e => k2 b o nb nL (k1.keep b o nL e))) (hs _ _ _)

theorem arm_put {A : Around} {s : Shared} {Q : Flow → Shared → Prop} {E : Value → Shared → Prop} {qual : Str} {cd : Value} {L f : Addr} {I : Heap → Prop} {sc p c l b r : Addr} {bf : Bool} {rows : List Tri} {as : List (Addr × Addr)} {N way beg many : Nat} (T : Tx K mg CI CB β) (hA : Lv (k + 4) A)
    (Bb : Bo CB β b l bf) (S : St β (Wm p c l as) I (dEnv (top 21) qual cd L f) s.heap (mD sc p bf b r way beg many)) (X : MS CI (dEnv (top 21) qual cd L f) bf β p c l s.heap r rows as N) (hN : N ≤ 60) (hmany : 1 ≤ many) (hbeg : beg + many ≤ rows.length)
    (q : ∀ h' t r' rows' as', Fx β (dEnv (top 21) qual cd L f) h' (mL sc p bf b r') → MS CI (dEnv (top 21) qual cd L f) bf β p c l h' r' rows' as' (N + 3) → Q .next { s with heap := h', toks := t }) :
    wpAny (model prog w) A (execs (ifElse (stAt (ifElse (deed 3)) 0)) (dEnv (top 21) qual cd L f)) Q E s := by
  have hlen := X.len
  have hWp : ∀ b, Wp p c b → Wm p c l as b := fun b hb => .inl hb
  have hdr : (dEnv (top 21) qual cd L f).kindOf "_law_draw" = some .globalImplicit := by rfl
  refine s_assignC (.inl (by rfl)) (e_glyphs (g0 := [30]) (g1 := [31, 32, 33]) (g2 := []) (g3 := []) T hA S hdr X.pn hWp (Gr.disp4 (EvL.disp (Ar.cons Ev.int Ar.nil) (by decide)) (EvL.disp (Ar.cons Ev.int (Ar.cons Ev.int (Ar.cons Ev.int Ar.nil))) (by decide)) (EvL.disp Ar.nil (by decide)) (EvL.disp Ar.nil (by decide))) (fun h F => nl F) (fun h => Ev.int) fun gl gs h2 t2 hgs xg fg S2 P2 k2 => ?_)
  have X2 := X.mv S.fx P2 fun b o nO nW e => k2 b o nW (fun q => nO (.inl q)) e
  have hg : gs.length ≤ 3 := by
    have : ∀ g ∈ ([[30], [31, 32, 33], [], []] : List (List Int)), g.length ≤ 3 := by decide
    exact this gs hgs
  obtain ⟨β1, sb1, S1, all1⟩ := S2.rebase
  have xg1 : Lst β1 gl (gs.map V.int) := lst_base S2 all1 xg (fun hb => (S.fresh fg).1 hb) (fun hb => (S.fresh fg).2 hb)
  have xo1 : Lst β1 r (tris rows) := lst_base S2 all1 X2.row X2.nor.1 X2.nor.2
  have ia1 : ∀ q ∈ as, β1.get? q.1 = some (instObj CI q.2) := fun q hq => let ⟨a, b⟩ := X2.inst S2.fx q hq; all1 _ _ a b (X2.rw.inst q hq)
  refine ⟨.ref gl, _, β1, S1.fx, rfl, fun h3 t3 F3 kp3 => ?_⟩
  have T1 := T.sub sb1
  have X3 : MS CI (dEnv (top 21) qual cd L f) bf β1 p c l h3 r rows as N := (X2.base fun b hb => (S1.out b hb).2).kp S1 kp3
  have S3 := X3.st F3
  let m3 : List (Str × V) := mL sc p bf b r ++ ([("begin", .int beg), ("way", .int way), ("many", .int many), ("glyphs", .ref gl)] : List (Str × V))
  have S3 : St β1 (Wm p c l as) (fun _ => True) (dEnv (top 21) qual cd L f) h3 m3 := S3
  refine s_expr ?_
  obtain ⟨fd, gd, dd⟩ := T1.fn 10 (by decide)
  refine e_call (s := { s with heap := h3, toks := t3 }) hA S3.fx T1.bs T1.kin (by rfl) gd dd.1 (Ar.cons (u := .ref b) (nl S3.fx) (Ar.cons (u := .int (beg : Int)) (nl S3.fx) (Ar.cons (u := .int (many : Int)) (nl S3.fx) (Ar.cons (u := .ref gl) (nl S3.fx) Ar.nil)))) fun vs h4 t4 g4 pp => ?_
  have S4 := S3.gw g4
  have X4 := X3.gw S3 g4
  refine put_ok (s := { s with heap := h4, toks := t4 }) T1 hA dd S4.fx.sub pp (Bb.sub sb1) X4.lst X4.rw xg1 (fun q hq => (S4.out _ (.inr (.inr ⟨q, hq, rfl⟩))).2) (S4.out l (.inr (.inl rfl))).2 hmany hbeg (by omega) (by omega) fun h5 t5 as' b5 l5 R5 hn5 => ?_
  rw [put_eq (ord_Rb bf) X.srt hmany hbeg] at R5
  have P5 : Pn h5 p c := X4.pn.kw fun b o hb e => b5 b o (X4.dis b hb) e
  have F5 : Fx β1 (dEnv (top 21) qual cd L f) h5 m3 := S4.fx.sw b5 fun b hb => ⟨(S4.out b (.inr hb)).1, (S4.out b (.inr hb)).2, S4.ok.notTup (.inr hb)⟩
  have out5 : ∀ b, Wm p c l as' b → ¬ Own (dEnv (top 21) qual cd L f) b ∧ β1.get? b = none := fun b hb => by
    rcases hb with hb | hb | ⟨q, hq, rfl⟩
    · exact S4.out b (.inl hb)
    · exact S4.out b (.inr (.inl hb))
    · rcases hn5 q hq with h | ⟨_, h⟩
      · exact S4.out _ (.inr (.inr ⟨q, h, rfl⟩))
      · exact ⟨(S4.fresh h).1, no_get S4.fx.sub h⟩
  have dis5 : ∀ b, Wp p c b → ¬ Wb l as' b := fun b hb hw => by
    rcases hw with hw | ⟨q, hq, rfl⟩
    · exact X4.dis b hb (.inl hw)
    · rcases hn5 q hq with h | ⟨_, h⟩
      · exact X4.dis _ hb (.inr ⟨q, h, rfl⟩)
      · obtain ⟨o, eo, _⟩ := X4.pn.wok _ hb
        rw [h] at eo; cases eo
  have S5 : St β1 (Wm p c l as') (KW (Wm p c l as') h5) (dEnv (top 21) qual cd L f) h5 m3 := ⟨F5, out5, fun b hb => hb.elim (P5.wok b) (wb_wok l5 R5 b), .refl, fun _ _ a b => b.trans a⟩
  obtain ⟨β2, sb2, S6, all2⟩ := S5.rebase
  have T2 := T1.sub sb2
  have ia2 : ∀ q ∈ as', β2.get? q.1 = some (instObj CI q.2) := fun q hq => by
    refine all2 _ _ (F5.notOwn (R5.inst q hq) (fun _ _ e => by cases e) (fun _ e => by cases e)) (fun hb => ?_) (R5.inst q hq)
    rcases hb with hb | hb
    · obtain ⟨o, eo, r⟩ := P5.wok _ hb
      rw [R5.inst q hq] at eo; cases eo
      rcases r with ⟨_, _, d⟩ | ⟨_, _, _, d⟩ <;> cases d
    · rcases hb with hb | hb
      · obtain ⟨vs, n, e, _⟩ := l5
        rw [← hb, R5.inst q hq] at e; cases e
      · exact rw_inst R5 q hq hb
  refine s_assignL (s := { s with heap := h5, toks := t5 }) hA S6 (.inl (by rfl)) (EvL.lawPut T2 S6.fx (by rfl) (Ar.cons (u := .ref r) (nl S6.fx) (Ar.cons (u := .int (beg : Int)) (nl S6.fx) (Ar.cons (u := .int (many : Int)) (nl S6.fx) (Ar.cons (u := .ref gl) (nl S6.fx) Ar.nil)))) (lst_sub sb2 xo1) (lst_sub sb2 xg1) hmany hbeg (by omega) (by omega)) fun β3 r' h7 t7 sb3 xr' fr S7 => x_nil ?_
  have hl := put_length (rw := rows) (gs := gs) hmany hbeg
  refine q h7 t7 r' _ as' ((((S7.fx.less fun z v e => (get_append e : get (mL sc p bf b r' ++ ([("begin", .int beg), ("way", .int way), ("many", .int many), ("glyphs", .ref gl)] : List (Str × V))) z = some v)).lower sb3).lower sb2).lower sb1) ((MS.of S7 (P5.kw fun b o hb e => S7.inv b o (.inl hb) e) (lst_refs l5 fun o e => S7.inv _ o (.inr (.inl rfl)) e) (R5.kw (fun q hq => S7.fx.sub _ _ (sb3 _ _ (ia2 q hq))) fun b o hb e => S7.inv b o (.inr (.inr hb)) e) xr' (put_srt (ord_Rb bf) X.srt hmany hbeg) (put_all (P := fun x => x ≤ 10 ^ 9) X.bnd hmany hbeg) (by omega) dis5).low fun b o e => sb3 b o (sb2 b o (sb1 b o e)))
end
end Mine

set_option Elab.async false
set_option maxRecDepth 100000
set_option linter.unusedVariables false
set_option autoImplicit false
set_option maxHeartbeats 2000000
namespace Mine
open PySem PySem.W PyProof.Rows PySem.Calls PySem.SeqAt

section
variable {prog : Program} {w : World} {k : Nat} {K : Frag} {mg : Str → Option Value} {CI CB : Addr} {β : Heap}

theorem MS.le {env : Env} {bf : Bool} {p c l : Addr} {h : Heap} {r : Addr} {rows : List Tri} {as : List (Addr × Addr)} {N N' : Nat} (x : MS CI env bf β p c l h r rows as N) (hN : N ≤ N') : MS CI env bf β p c l h r rows as N' := ⟨x.pn, x.lst, x.rw, x.row, x.srt, x.bnd, Nat.le_trans x.len hN, x.nor, x.out, x.dis⟩

theorem MS.mvK {env : Env} {bf : Bool} {β : Heap} {p c l : Addr} {h h' : Heap} {r : Addr} {rows : List Tri} {as : List (Addr × Addr)} {N : Nat} {m : List (Str × V)} (x : MS CI env bf β p c l h r rows as N) (F : Fx β env h m) (P : Pn h' p c)
    (k : ∀ b o, ¬ Own env b → ¬ Wp p c b → (∀ xs, o.data ≠ .fields xs) → h.get? b = some o → h'.get? b = some o) : MS CI env bf β p c l h' r rows as N := by
  have nb : ∀ b, Wb l as b → ¬ Wp p c b := fun b hb q => x.dis b q hb
  have kl : ∀ b us, Lst h b us → ∀ o, h.get? b = some o → ∀ xs, o.data ≠ .fields xs := fun b us ⟨vs, n, e, _⟩ o e' xs q => by rw [e] at e'; cases e'; cases q
  refine x.keep P (fun o e => k l o (x.out l (.inr (.inl rfl))).1 (nb l (.inl rfl)) (kl _ _ x.lst o e) e) (fun q hq o e => k _ o (F.notOwn (x.rw.inst q hq) (fun _ _ e => by cases e) fun _ e => by cases e) (fun hb => ?_) (fun xs d => by rw [x.rw.inst q hq] at e; cases e; cases d) e)
    (fun q hq o e => k _ o (x.out _ (.inr (.inr ⟨q, hq, rfl⟩))).1 (nb _ (.inr ⟨q, hq, rfl⟩)) (fun xs d => by obtain ⟨o', eo, es, n, d'⟩ := x.rw.alive hq; rw [e] at eo; cases eo; rw [d] at d'; cases d') e) (fun o e => k r o x.nor.1 (fun q => x.nor.2 (.inl q)) (kl _ _ x.row o e) e) fun a its it => ?_
  · obtain ⟨o, eo, r⟩ := x.pn.wok _ hb
    rw [x.rw.inst q hq] at eo; cases eo
    rcases r with ⟨_, _, d⟩ | ⟨_, _, _, d⟩ <;> cases d
  · obtain ⟨o, e, cc, n, d⟩ := id it
    exact ⟨o, k a o (F.notOwn e (fun _ _ q => by rw [d] at q; cases q) fun _ q => by rw [d] at q; cases q) (fun hb => x.pn.wok.notTup hb its it) (fun xs q => by rw [d] at q; cases q) e, cc, n, d⟩
/-- one deed -/
theorem turn_ok {A : Around} {s : Shared} {Q : Flow → Shared → Prop} {E : Value → Shared → Prop} {qual : Str} {cd : Value} {L f : Addr} {I : Heap → Prop} {sc p c l b r : Addr} {bf : Bool} {rows : List Tri} {as : List (Addr × Addr)} {N : Nat} (T : Tx K mg CI CB β) (hA : Lv (k + 4) A)
    (Bb : Bo CB β b l bf) (S : St β (Wm p c l as) I (dEnv (top 21) qual cd L f) s.heap (mL sc p bf b r)) (X : MS CI (dEnv (top 21) qual cd L f) bf β p c l s.heap r rows as N) (hN : N + 3 ≤ 60)
    (qb : ∀ h' t, St β (Wm p c l as) (fun _ => True) (dEnv (top 21) qual cd L f) h' (mL sc p bf b r) → MS CI (dEnv (top 21) qual cd L f) bf β p c l h' r rows as N → Q .brk { s with heap := h', toks := t })
    (qn : ∀ h' t r' rows' as', Fx β (dEnv (top 21) qual cd L f) h' (mL sc p bf b r') → MS CI (dEnv (top 21) qual cd L f) bf β p c l h' r' rows' as' (N + 3) → Q .next { s with heap := h', toks := t }) :
    wpAny (model prog w) A (execs turn6 (dEnv (top 21) qual cd L f)) Q E s := by
  refine turn_head T hA S X (by omega) qb fun h1 t1 way beg many hmany hbeg S1 X1 => ?_
  have fin : ∀ h' t r' rows' as', Fx β (dEnv (top 21) qual cd L f) h' (mL sc p bf b r') → MS CI (dEnv (top 21) qual cd L f) bf β p c l h' r' rows' as' (N + 3) → wpAny (model prog w) A (execs (turn6.drop 4) (dEnv (top 21) qual cd L f)) Q E { s with heap := h', toks := t } :=
    fun h' t r' rows' as' F' X' => turn_checks (s := { s with heap := h', toks := t }) T hA Bb (X'.st F') X' hN fun h4 t4 F4 X4 => qn h4 t4 r' rows' as' F4 X4
  refine s_if (s := { s with heap := h1, toks := t1 }) hA S1 (Tr.cmp (nl S1.fx) Ev.int c_eq) (fun e h2 t2 S2 g2 => ?_) (fun e h2 t2 S2 g2 => ?_)
  · exact arm_merge (s := { s with heap := h2, toks := t2 }) T hA Bb S2 (X1.gw S1 g2) (by omega) hmany hbeg fun h3 t3 r' rows' as' F3 X3 => fin h3 t3 r' rows' as' F3 (X3.le (by omega))
  · have X2 := X1.gw S1 g2
    refine s_if (s := { s with heap := h2, toks := t2 }) hA S2 (Tr.cmp (nl S2.fx) Ev.int c_eq) (fun e h3 t3 S3 g3 => ?_) (fun e h3 t3 S3 g3 => ?_)
    · exact arm_hang (s := { s with heap := h3, toks := t3 }) T hA Bb S3 (X2.gw S2 g3) (by omega) hmany hbeg fun h4 t4 r' rows' as' F4 X4 => x_nil (fin h4 t4 r' rows' as' F4 (X4.le (by omega)))
    · exact arm_put (s := { s with heap := h3, toks := t3 }) T hA Bb S3 (X2.gw S2 g3) (by omega) hmany hbeg fun h4 t4 r' rows' as' F4 X4 => x_nil (fin h4 t4 r' rows' as' F4 X4)

/-- the deeds and what is behind them -/
theorem law_deeds {A : Around} {s : Shared} {Q : Flow → Shared → Prop} {E : Value → Shared → Prop} {qual : Str} {cd : Value} {L f : Addr} {I : Heap → Prop} {sc p c l b r : Addr} {bf : Bool} {rows : List Tri} {as : List (Addr × Addr)} (T : Tx K mg CI CB β) (hA : Lv (k + 4) A)
    (Bb : Bo CB β b l bf) (S : St β (Wm p c l as) I (dEnv (top 21) qual cd L f) s.heap (mL sc p bf b r)) (X : MS CI (dEnv (top 21) qual cd L f) bf β p c l s.heap r rows as 9)
    (q : ∀ h' t, Sub β h' → Q (.ret (.bool true)) { s with heap := h', toks := t }) :
    wpAny (model prog w) A (execs ((bodyOf (top 21)).drop 6) (dEnv (top 21) qual cd L f)) Q E s := by
  refine s_range hA S.fx T.bs (by rfl) (T.none _ (by decide)) (by rfl) (e_addC (k := k + 4) (a := 1) hA Ev.int fun h1 t1 g1 => ?_)
  have S1 := S.gw g1
  have X1 := X.gw S g1
  refine e_draw (s := { s with heap := h1, toks := t1 }) (n := 5) T hA S1 (by rfl) X1.pn (fun b hb => .inl hb) (nl S1.fx) Ev.int (by decide) (by decide) fun d h2 t2 tk hd S2 P2 k2 T2 => ?_
  have X2 := X1.mv S1.fx P2 fun b o nO nW e => k2 b o nW (fun q => nO (.inl q)) e
  refine ⟨d, tk, rfl, fun tk9 t9 => ⟨1 + d, tk9, β, mL sc p bf b r, Wm p c l as, fun i W h m => ∃ r rows as, m = mL sc p bf b r ∧ W = Wm p c l as ∧ MS CI (dEnv (top 21) qual cd L f) bf β p c l h r rows as (9 + 3 * i), by rw [show ((1 + d : Nat) : Int) = 1 + (d : Int) by omega], by omega, ?_⟩⟩
  refine ⟨S2.fx, ⟨r, rows, as, rfl, rfl, X2⟩, ?_, ?_, ?_, ?_⟩
  · rintro i W h m ⟨r, rows, as, rfl, rfl, X⟩
    exact ⟨X.out, X.wok⟩
  · rintro i W h3 h4 m1 F3 kf kw ⟨r, rows, as, rfl, rfl, X⟩
    exact ⟨r, rows, as, rfl, rfl, X.mvK F3 (X.pn.kw fun b o hb e => kw b o (.inl hb) e) fun b o nO _ nf e => kf b o nO nf e⟩
  · rintro i W h3 t3 m3 β3 E' hi sb3 all3 S3 ⟨r, rows, as, rfl, rfl, X3⟩
    have S3' : St β3 (Wm p c l as) (KW (Wm p c l as) h3) (dEnv (top 21) qual cd L f) h3 (mL sc p bf b r) := S3.less (put_more (by rfl))
    refine turn_ok (s := { s with heap := h3, toks := t3 }) (T.sub sb3) hA (Bb.sub sb3) S3' (X3.base fun b hb => (S3.out b hb).2) (by omega) (fun h4 t4 S4 X4 => ?_) fun h4 t4 r' rows' as' F4 X4 => ?_
    · exact law_tail (s := { s with heap := h4, toks := t4 }) (T.sub sb3) hA (Bb.sub sb3) S4 X4 (by omega) fun h5 t5 sub5 => q h5 t5 fun b o e => sub5 b o (sb3 b o e)
    · exact ⟨h4, t4, _, _, rfl, F4, r', rows', as', rfl, rfl, X4.low sb3⟩
  · rintro W h3 t3 m3 F3 ⟨r, rows, as, rfl, rfl, X3⟩
    exact law_tail (s := { s with heap := h3, toks := t3 }) T hA Bb (X3.st F3) X3 (by omega) q
end
end Mine

set_option Elab.async false
set_option maxRecDepth 100000
set_option linter.unusedVariables false
set_option autoImplicit false
set_option maxHeartbeats 2000000
namespace Mine
open PySem PySem.W PyProof.Rows PySem.Calls PySem.SeqAt

/-- the law's names while it builds its row -/
def mA (sc p : Addr) (bf : Bool) (r : Addr) (cc : Int) : List (Str × V) := [("script", .ref sc), ("pen", .ref p), ("is_falling", .bool bf), ("row", .ref r), ("cluster", .int cc)]
def W1 (p c r : Addr) (b : Addr) : Prop := Wp p c b ∨ b = r
/-- a row that is being built -/
structure BS (p c r : Addr) (h : Heap) (rows : List Tri) (cc : Int) (i : Nat) : Prop where
  pn : Pn h p c
  row : Lst h r (tris rows)
  srt : Srt (Rb false) rows
  le : ∀ x ∈ rows, x.2.1 ≤ cc
  bnd : cc ≤ 2 * i
  len : rows.length = i
theorem BS.wok {p c r : Addr} {h : Heap} {rows : List Tri} {cc : Int} {i : Nat} (x : BS p c r h rows cc i) : Wok (W1 p c r) h := fun b hb => hb.elim (x.pn.wok b) fun e => e ▸ lst_wok x.row
theorem BS.mv {β : Heap} {env : Env} {m : List (Str × V)} {p c r : Addr} {h h' : Heap} {rows : List Tri} {cc : Int} {i : Nat} (x : BS p c r h rows cc i) (F : Fx β env h m) (P : Pn h' p c) (nO : ¬ Own env r) (nW : ¬ Wp p c r)
    (k : ∀ b o, ¬ Own env b → ¬ Wp p c b → (∀ xs, o.data ≠ .fields xs) → h.get? b = some o → h'.get? b = some o) : BS p c r h' rows cc i := by
  refine ⟨P, lst_tup x.row (fun o e => k r o nO nW (fun xs q => ?_) e) fun a its it => ?_, x.srt, x.le, x.bnd, x.len⟩
  · obtain ⟨vs, n, e', _⟩ := x.row
    rw [e] at e'; cases e'; cases q
  · obtain ⟨o, e, cc, n, d⟩ := id it
    exact ⟨o, k a o (F.notOwn e (fun _ _ q => by rw [d] at q; cases q) fun _ q => by rw [d] at q; cases q) (fun hb => x.pn.wok.notTup hb its it) (fun xs q => by rw [d] at q; cases q) e, cc, n, d⟩
theorem BS.gw {β : Heap} {env : Env} {m : List (Str × V)} {I : Heap → Prop} {p c r : Addr} {h h' : Heap} {rows : List Tri} {cc : Int} {i : Nat} (x : BS p c r h rows cc i) (S : St β (W1 p c r) I env h m) (nW : ¬ Wp p c r) (g : Gw env.locals h h') : BS p c r h' rows cc i :=
  x.mv S.fx (x.pn.kw fun b o hb e => S.kwGw g b o (.inl hb) e) (S.out r (.inr rfl)).1 nW fun b o nO _ _ e => g.keep b o (fun q => nO (.inl q)) e
theorem BS.kp {β : Heap} {env : Env} {m : List (Str × V)} {I : Heap → Prop} {p c r : Addr} {h h' : Heap} {rows : List Tri} {cc : Int} {i : Nat} (x : BS p c r h rows cc i) (S : St β (W1 p c r) I env h m) (nW : ¬ Wp p c r) (g : Kp env no h h') : BS p c r h' rows cc i :=
  x.mv S.fx (x.pn.kw fun b o hb e => S.kwKp g b o (.inl hb) e) (S.out r (.inr rfl)).1 nW fun b o nO _ _ e => g b o nO (fun q => q) e
def turn2 : List Stmt := forBody (stAt (bodyOf (top 21)) 2)

section
variable {prog : Program} {w : World} {k : Nat} {K : Frag} {mg : Str → Option Value} {CI CB : Addr} {β : Heap}

/-- one more glyph in the row -/
theorem row_turn {A : Around} {s : Shared} {Q : Flow → Shared → Prop} {E : Value → Shared → Prop} {qual : Str} {cd : Value} {L f : Addr} {I : Heap → Prop} {sc p c r : Addr} {bf : Bool} {rows : List Tri} {cc : Int} {i : Nat} (T : Tx K mg CI CB β) (hA : Lv (k + 2) A)
    (S : St β (W1 p c r) I (dEnv (top 21) qual cd L f) s.heap (put (mA sc p bf r cc) "turn" (.int (i : Int)))) (X : BS p c r s.heap rows cc i) (hi : i ≤ 9) (nW : ¬ Wp p c r)
    (q : ∀ h' t rows' cc', Fx β (dEnv (top 21) qual cd L f) h' (mA sc p bf r cc') → BS p c r h' rows' cc' (i + 1) → Q .next { s with heap := h', toks := t }) :
    wpAny (model prog w) A (execs turn2 (dEnv (top 21) qual cd L f)) Q E s := by
  have hWp : ∀ b, Wp p c b → W1 p c r b := fun b hb => .inl hb
  have nO : ¬ Own (dEnv (top 21) qual cd L f) r := (S.out r (.inr rfl)).1
  obtain ⟨fd, gd, dd⟩ := T.fn 15 (by decide)
  refine s_assignC (.inl (by rfl)) (e_addC (k := k + 2) (a := cc) hA (nl S.fx) fun h2 t2 g2 => ?_)
  have S2 := S.gw g2
  have X2 := X.gw S nW g2
  refine e_callC (s := { s with heap := h2, toks := t2 }) S2.fx T.bs T.kin (by rfl) gd dd.1 (spl_cons (s := { s with heap := h2, toks := t2 }) (P := fun v _ h' => Rep h' v (.ref p)) hA (nl S2.fx) fun v1 h3 t3 g3 e1 => spl_cons (s := { s with heap := h3, toks := t3 }) (P := fun v h₀ h' => ∃ l, v = .ref l ∧ Lst h' l (([1, 0, 2] : List Int).map V.int) ∧ h₀.get? l = none) hA (EvL.disp (Ar.cons Ev.int (Ar.cons Ev.int (Ar.cons Ev.int Ar.nil))) (by decide)) fun v2 h4 t4 g4 ⟨sl, e2, xsl, fsl⟩ => spl_nil ?_)
  have S3 := S2.gw g3
  have S4 := S3.gw g4
  have X4 := (X2.gw S2 nW g3).gw S3 nW g4
  subst e2
  refine ⟨S4.fx.sub, pick_ok (s := { s with heap := h4, toks := t4 }) (xs := [1, 0, 2]) T hA dd S4.fx.sub (.cons e1 (.cons rfl .nil)) X4.pn (S4.out p (.inl (.inl rfl))).2 (S4.out c (.inl (.inr rfl))).2 xsl (fun hb => (S3.fresh fsl).2 (.inl hb)) (by decide) (by decide) fun x h5 t5 tk5 hx b5 P5 => ?_⟩
  have hx' : 0 ≤ x ∧ x ≤ 2 := by
    have : ∀ y ∈ ([1, 0, 2] : List Int), 0 ≤ y ∧ y ≤ 2 := by decide
    exact this x hx
  have X5 := X4.mv S4.fx P5 nO nW fun b o _ nW' _ e => b5 b o nW' e
  have S5 : St β (W1 p c r) (fun _ => True) (dEnv (top 21) qual cd L f) h5 _ := S4.eff (b5.mono hWp) X5.wok trivial fun _ _ _ x => x
  refine ⟨x, tk5, rfl, fun tk6 t6 => ⟨.int (cc + x), _, β, S5.fx, ⟨_, rfl⟩, fun h6 t7 F6 kp6 => ?_⟩⟩
  let m6 : List (Str × V) := mA sc p bf r (cc + x) ++ ([("turn", .int (i : Int))] : List (Str × V))
  have F6 : Fx β (dEnv (top 21) qual cd L f) h6 m6 := F6
  have X6 := X5.kp S5 nW kp6
  have S6 : St β (W1 p c r) (fun _ => True) (dEnv (top 21) qual cd L f) h6 m6 := ⟨F6, S5.out, X6.wok, trivial, fun _ _ _ x => x⟩
  have hrl : (tris rows).length ≤ 1000 := by rw [tris_length, X.len]; omega
  refine s_expr (s := { s with heap := h6, toks := t7 }) (e_lmeth hA (nl S6.fx) X6.row PySem.F.slot_list_append PySem.F.type_list_append fun h7 t8 g7 => spl_consC (Tuple_ (spl_cons (s := { s with heap := h7, toks := t8 }) (P := fun v _ h' => Rep h' v (.int (10 + (i : Int)))) hA (Ev.add Ev.int (nl (S6.gw g7).fx)) fun v1 h8 t9 g8 r1 => spl_cons (s := { s with heap := h8, toks := t9 }) (P := fun v _ h' => Rep h' v (.int (cc + x))) hA (nl ((S6.gw g7).gw g8).fx) fun v2 h9 t10 g9 r2 => ?_)))
  have S7 := S6.gw g7
  have S8 := S7.gw g8
  have S9 := S8.gw g9
  have X9 := ((X6.gw S6 nW g7).gw S7 nW g8).gw S8 nW g9
  refine spl_consC (e_drawB (s := { s with heap := h9, toks := t10 }) (n := 4) T hA S9 (by rfl) X9.pn hWp (nl S9.fx) Ev.int (by decide) (by decide) fun bo h10 t11 S10 P10 k10 T10 => spl_nil ?_)
  have X10 := X9.mv S9.fx P10 nO nW fun b o nO' nW' _ e => k10 b o nW' (fun q => nO' (.inl q)) e
  obtain ⟨ta, rfl⟩ := r1
  obtain ⟨tb, rfl⟩ := r2
  refine wpAny_newObj_type (spl_nil ?_) (by show 3 ≤ sizeLine; rw [sizeLine_eq]; omega)
  have it := Heap.get?_push_size h10 (o := { cls := .type "tuple", data := .seq ([Value.int (10 + (i : Int)) ta, .int (cc + x) tb, .bool bo] : List Value).toArray }) rfl
  have g11 : Gw (dEnv (top 21) qual cd L f).locals h10 (h10.push { cls := .type "tuple", data := .seq ([Value.int (10 + (i : Int)) ta, .int (cc + x) tb, .bool bo] : List Value).toArray }) := Gw.push _
  have X11 := X10.gw S10 nW g11
  refine c_append (s := { s with heap := h10.push { cls := .type "tuple", data := .seq ([Value.int (10 + (i : Int)) ta, .int (cc + x) tb, .bool bo] : List Value).toArray }, toks := t11 }) (u := .tri (10 + (i : Int)) (cc + x) bo) X11.row ⟨_, ta, tb, rfl, _, it, rfl, 0, rfl⟩ hrl fun h12 x12 b12 => x_nil ?_
  obtain ⟨k12, F12, ok12⟩ := S10.chg (.inr rfl) g11 b12 _ x12.isList
  refine q h12 t11 (rows ++ [(10 + (i : Int), cc + x, bo)]) (cc + x) (F12.less fun z v e => (get_append e : get (mA sc p bf r (cc + x) ++ ([("turn", .int (i : Int))] : List (Str × V))) z = some v)) ⟨X11.pn.kw fun b o hb e => b12 b o (fun q => nW (q ▸ hb)) e, ?_, ?_, ?_, ?_, ?_⟩
  · rw [← tris_append]; exact x12
  · rw [Srt, List.pairwise_append]
    refine ⟨X.srt, List.pairwise_singleton _ _, fun a ha b hb => ?_⟩
    rw [List.mem_singleton.mp hb]
    have := X.le a ha
    show a.2.1 ≤ cc + x
    omega
  · intro y hy
    rcases List.mem_append.mp hy with hy | hy
    · have := X.le y hy; omega
    · rw [List.mem_singleton.mp hy]; exact Int.le_refl _
  · have := X.bnd; omega
  · rw [List.length_append, X.len]; rfl
end
end Mine

set_option Elab.async false
set_option maxRecDepth 100000
set_option linter.unusedVariables false
set_option autoImplicit false
set_option maxHeartbeats 2000000
namespace Mine
open PySem PySem.W PyProof.Rows PySem.Calls PySem.SeqAt

def mR (sc p : Addr) (bf : Bool) (r : Addr) : List (Str × V) := [("script", .ref sc), ("pen", .ref p), ("is_falling", .bool bf), ("row", .ref r)]

section
variable {prog : Program} {w : World} {k : Nat} {K : Frag} {mg : Str → Option Value} {CI CB : Addr} {β : Heap}

/-- the row, turned round where it falls -/
theorem law_rev {A : Around} {s : Shared} {Q : Flow → Shared → Prop} {E : Value → Shared → Prop} {qual : Str} {cd : Value} {L f : Addr} {I : Heap → Prop} {sc p c r : Addr} {bf : Bool} {rows : List Tri} {cc : Int} {i : Nat} (T : Tx K mg CI CB β) (hA : Lv (k + 1) A)
    (S : St β (Wp p c) I (dEnv (top 21) qual cd L f) s.heap (mR sc p bf r)) (X : BS p c r s.heap rows cc i) (hi : i ≤ 9) (nO : ¬ Own (dEnv (top 21) qual cd L f) r) (nW : ¬ Wp p c r)
    (q : ∀ h' t β' r' rows', Sub β β' → St β' (Wp p c) (fun _ => True) (dEnv (top 21) qual cd L f) h' (mR sc p bf r') → Pn h' p c → Lst β' r' (tris rows') → Srt (Rb bf) rows' → rows'.length ≤ 9 → (∀ x ∈ rows', x.2.1 ≤ 10 ^ 9) →
      wpAny (model prog w) A (execs ((bodyOf (top 21)).drop 4) (dEnv (top 21) qual cd L f)) Q E { s with heap := h', toks := t }) :
    wpAny (model prog w) A (execs ((bodyOf (top 21)).drop 3) (dEnv (top 21) qual cd L f)) Q E s := by
  obtain ⟨β1, sb1, S1, all1⟩ := S.rebase
  have xr : Lst β1 r (tris rows) := lst_base S all1 X.row nO nW
  have S1 : St β1 (Wp p c) (KW (Wp p c) s.heap) (dEnv (top 21) qual cd L f) s.heap (mR sc p bf r) := S1.imp .refl fun _ _ a b => b.trans a
  have hb : ∀ x ∈ rows, x.2.1 ≤ 10 ^ 9 := fun x hx => by have := X.le x hx; have := X.bnd; omega
  have hlen := X.len
  refine s_ifJ hA S1 (Tr.plain (nl S1.fx)) (fun h => ∃ β' r' rows', Sub β β' ∧ St β' (Wp p c) (fun _ => True) (dEnv (top 21) qual cd L f) h (mR sc p bf r') ∧ Pn h p c ∧ Lst β' r' (tris rows') ∧ Srt (Rb bf) rows' ∧ rows'.length ≤ 9 ∧ ∀ x ∈ rows', x.2.1 ≤ 10 ^ 9)
    (fun e h2 t2 S2 g2 => ?_) (fun e h2 S2 g2 => ⟨β1, r, rows, sb1, S2.imp trivial fun _ _ _ x => x, X.pn.kw S2.inv, xr, by rw [e]; exact X.srt, by omega, hb⟩) fun h3 t3 ⟨β', r', rows', a, b, c, d, e, f, g⟩ => q h3 t3 β' r' rows' a b c d e f g
  refine s_assignL (s := { s with heap := h2, toks := t2 }) hA S2 (.inl (by rfl)) (EvL.rev (Ev.a (nl S2.fx) (lst_sub S2.fx.sub xr)) (by rw [tris_length]; omega)) fun β2 r2 h3 t3 sb2 x2 f2 S3 => x_nil ?_
  refine ⟨h3, t3, rfl, rfl, β2, r2, rows.reverse, fun b o e => sb2 b o (sb1 b o e), S3.imp trivial fun _ _ _ x => x, X.pn.kw S3.inv, ?_, ?_, by rw [List.length_reverse]; omega, fun x hx => hb x (List.mem_reverse.mp hx)⟩
  · have : (tris rows).reverse = tris rows.reverse := by unfold tris; rw [List.map_reverse]
    rw [← this]; exact x2
  · rw [e, Srt, List.pairwise_reverse]
    exact X.srt

/-- the row is built -/
theorem law_rows {A : Around} {s : Shared} {Q : Flow → Shared → Prop} {E : Value → Shared → Prop} {qual : Str} {cd : Value} {L f : Addr} {I : Heap → Prop} {sc p c r : Addr} {bf : Bool} (T : Tx K mg CI CB β) (hA : Lv (k + 2) A)
    (S : St β (W1 p c r) I (dEnv (top 21) qual cd L f) s.heap (mA sc p bf r 0)) (X : BS p c r s.heap [] 0 0) (nW : ¬ Wp p c r)
    (q : ∀ h' t β' r' rows', Sub β β' → St β' (Wp p c) (fun _ => True) (dEnv (top 21) qual cd L f) h' (mR sc p bf r') → Pn h' p c → Lst β' r' (tris rows') → Srt (Rb bf) rows' → rows'.length ≤ 9 → (∀ x ∈ rows', x.2.1 ≤ 10 ^ 9) →
      wpAny (model prog w) A (execs ((bodyOf (top 21)).drop 4) (dEnv (top 21) qual cd L f)) Q E { s with heap := h', toks := t }) :
    wpAny (model prog w) A (execs ((bodyOf (top 21)).drop 2) (dEnv (top 21) qual cd L f)) Q E s := by
  have nO : ¬ Own (dEnv (top 21) qual cd L f) r := (S.out r (.inr rfl)).1
  refine s_range hA S.fx T.bs (by rfl) (T.none _ (by decide)) (by rfl) (e_addC (k := k + 2) (a := 1) hA Ev.int fun h1 t1 g1 => ?_)
  have S1 := S.gw g1
  have X1 := X.gw S nW g1
  refine e_draw (s := { s with heap := h1, toks := t1 }) (n := 9) T hA S1 (by rfl) X1.pn (fun b hb => .inl hb) (nl S1.fx) Ev.int (by decide) (by decide) fun d h2 t2 tk hd S2 P2 k2 T2 => ?_
  have X2 := X1.mv S1.fx P2 nO nW fun b o nO nW' _ e => k2 b o nW' (fun q => nO (.inl q)) e
  refine ⟨d, tk, rfl, fun tk9 t9 => ⟨1 + d, tk9, β, mA sc p bf r 0, W1 p c r, fun i W h m => ∃ cc rows, m = mA sc p bf r cc ∧ W = W1 p c r ∧ BS p c r h rows cc i, by rw [show ((1 + d : Nat) : Int) = 1 + (d : Int) by omega], by omega, ?_⟩⟩
  refine ⟨S2.fx, ⟨0, [], rfl, rfl, X2⟩, ?_, ?_, ?_, ?_⟩
  · rintro i W h m ⟨cc, rows, rfl, rfl, X⟩
    exact ⟨S.out, X.wok⟩
  · rintro i W h3 h4 m1 F3 kf kw ⟨cc, rows, rfl, rfl, X⟩
    exact ⟨cc, rows, rfl, rfl, X.mv F3 (X.pn.kw fun b o hb e => kw b o (.inl hb) e) nO nW fun b o nO _ nf e => kf b o nO nf e⟩
  · rintro i W h3 t3 m3 β3 E' hi sb3 all3 S3 ⟨cc, rows, rfl, rfl, X3⟩
    exact row_turn (s := { s with heap := h3, toks := t3 }) (T.sub sb3) hA S3 X3 (by omega) nW fun h4 t4 rows' cc' F4 X4 => ⟨h4, t4, _, _, rfl, F4, cc', rows', rfl, rfl, X4⟩
  · rintro W h3 t3 m3 F3 ⟨cc, rows, rfl, rfl, X3⟩
    have S3 : St β (Wp p c) (fun _ => True) (dEnv (top 21) qual cd L f) h3 (mR sc p bf r) := ⟨F3.less fun z v e => (get_append e : get (mR sc p bf r ++ ([("cluster", .int cc)] : List (Str × V))) z = some v), fun b hb => S.out b (.inl hb), X3.pn.wok, trivial, fun _ _ _ x => x⟩
    exact law_rev (s := { s with heap := h3, toks := t3 }) T hA S3 X3 (by omega) nO nW q
end
end Mine

set_option Elab.async false
set_option maxRecDepth 100000
set_option linter.unusedVariables false
set_option autoImplicit false
set_option maxHeartbeats 2000000
namespace Mine
open PySem PySem.W PyProof.Rows PySem.Calls PySem.SeqAt

def setU (rows : List Tri) (i : Nat) : List Tri := rows.take i ++ (rows.drop i).map fresh0
theorem setU_zero {rows : List Tri} : setU rows 0 = rows.map fresh0 := rfl
theorem setU_all {rows : List Tri} : setU rows rows.length = rows := by unfold setU; rw [List.take_length, List.drop_length]; simp
theorem setU_length {rows : List Tri} {i : Nat} : (setU rows i).length = rows.length := by simp [setU]; omega
theorem setU_get {rows : List Tri} {i j : Nat} : (setU rows i)[j]? = if j < i then rows[j]? else rows[j]?.map fresh0 := by
  unfold setU
  rw [List.getElem?_append]
  simp only [List.length_take, List.getElem?_take, List.getElem?_map, List.getElem?_drop]
  by_cases h1 : j < rows.length
  · by_cases h2 : j < i
    · rw [if_pos (by omega), if_pos h2, if_pos h2]
    · rw [if_neg (by omega), if_neg h2, show i + (j - min i rows.length) = j by omega]
  · have e : rows[j]? = none := List.getElem?_eq_none (by omega)
    rw [e]
    by_cases h2 : j < i
    · rw [if_neg (by omega), if_pos h2, List.getElem?_eq_none (by omega)]; rfl
    · rw [if_neg (by omega), if_neg h2, List.getElem?_eq_none (by omega)]
theorem setU_next {rows : List Tri} {i : Nat} (hi : i < rows.length) : (setU rows i).set i (rows.getD i default) = setU rows (i + 1) := by
  apply List.ext_getElem?
  intro j
  rw [List.getElem?_set, setU_get, setU_get, setU_length]
  by_cases h : i = j
  · subst h
    rw [if_pos rfl, if_pos hi, if_pos (by omega), List.getD_eq_getElem?_getD, List.getElem?_eq_getElem hi]; rfl
  · rw [if_neg h]
    by_cases h2 : j < i
    · rw [if_pos h2, if_pos (by omega)]
    · rw [if_neg h2, if_neg (by omega)]
theorem setU_at {rows : List Tri} {i : Nat} (hi : i < rows.length) : (setU rows i).getD i default = fresh0 (rows.getD i default) := by
  rw [List.getD_eq_getElem?_getD, setU_get, if_neg (by omega), List.getD_eq_getElem?_getD, List.getElem?_eq_getElem hi]; rfl

section
variable {prog : Program} {w : World} {k : Nat} {K : Frag} {mg : Str → Option Value} {CI CB : Addr} {β : Heap}

/-- the infos take their marks -/
theorem law_marks {A : Around} {s : Shared} {Q : Flow → Shared → Prop} {E : Value → Shared → Prop} {qual : Str} {cd : Value} {L f : Addr} {I : Heap → Prop} {sc p c l b r : Addr} {bf : Bool} {rows : List Tri} {as : List (Addr × Addr)} (T : Tx K mg CI CB β) (hA : Lv (k + 4) A)
    (Bb : Bo CB β b l bf) (S : St β (Wm p c l as) I (dEnv (top 21) qual cd L f) s.heap (mL sc p bf b r)) (P : Pn s.heap p c) (xl : Lst s.heap l (refs as)) (xR : Rw CI s.heap as (rows.map fresh0)) (xr : Lst β r (tris rows)) (hs : Srt (Rb bf) rows) (hlen : rows.length ≤ 9) (hb : ∀ x ∈ rows, x.2.1 ≤ 10 ^ 9) (dis : ∀ b, Wp p c b → ¬ Wb l as b)
    (q : ∀ h' t, Sub β h' → Q (.ret (.bool true)) { s with heap := h', toks := t }) :
    wpAny (model prog w) A (execs ((bodyOf (top 21)).drop 5) (dEnv (top 21) qual cd L f)) Q E s := by
  have oL : ∀ q ∈ as, q.2 ≠ (dEnv (top 21) qual cd L f).locals := fun q hq e => (S.out _ (.inr (.inr ⟨q, hq, rfl⟩))).1 (.inl e)
  have ol : l ≠ (dEnv (top 21) qual cd L f).locals := fun e => (S.out _ (.inr (.inl rfl))).1 (.inl e)
  have hn : (tris rows).length = rows.length := tris_length
  refine s_forE hA S T.bs (by rfl) (T.none _ (by decide)) (nl S.fx (u := .ref r)) (lst_sub S.fx.sub xr) (lst_notW S xr) (.inl (by rfl)) (.inl (by rfl)) (fun i h m => m = mL sc p bf b r ∧ Pn h p c ∧ Lst h l (refs as) ∧ Rw CI h as (setU rows i))
    (fun h' g => ⟨rfl, P.kw fun b o hb e => S.kwGw g b o (.inl hb) e, g.lst xl, xR.gw g oL⟩) (fun i h1 h2 m1 F1 ok1 kf kw ⟨em, a1, a2, a3⟩ => ⟨em, a1.kw fun b o hb e => kw b o (.inl hb) e, lst_refs a2 fun o e => kw _ o (.inr (.inl rfl)) e, a3.kw (fun q hq => kf _ _ (F1.notOwn (a3.inst q hq) (fun _ _ q => by cases q) (fun _ q => by cases q)) (fun _ q => by cases q) (a3.inst q hq)) fun b o hb e => kw b o (.inr (.inr hb)) e⟩) ?_ ?_
  · rintro i u h1 t1 m1 β1 E' hu sb1 all1 S1 ⟨rfl, P1, l1, R1⟩
    have hi : i < rows.length := by have := (List.getElem?_eq_some_iff.mp hu).1; rwa [hn] at this
    rw [tris_getD hi] at hu
    cases hu
    have T1 := T.sub sb1
    obtain ⟨q1, hq1, hm1, Ia, D1⟩ := R1.at (i := i) (by rw [setU_length]; exact hi)
    have hc : cl (setU rows i) i = cl rows i := by unfold cl; rw [setU_at hi]; rfl
    rw [setU_at hi, hc] at D1
    have hd : Wm p c l as q1.2 := .inr (.inr ⟨q1, hm1, rfl⟩)
    refine s_setattr (s := { s with heap := h1, toks := t1 }) hA S1 T1.kin T1.info.2.2.1 (x := "is_unsafe") (by decide) (Ev.p2 (r := rows.getD i default) (nl S1.fx)) (fun _ _ _ q => by cases q) (a := q1.1)
      (Ev.rowAt (l := l) (Ev.a (Ev.bufRow T1 S1.fx (nl S1.fx) (Bb.sub sb1)) l1) (nl S1.fx (u := .int (i : Int))) (by omega) (by have := R1.len; rw [setU_length] at this; omega) (p := q1) (by rw [show (i : Int).toNat = i by omega]; exact hq1)) Ia D1 hd (by decide) fun h9 t9 D9 k9 F9 ok9 => x_nil ?_
    refine ⟨h9, t9, mL sc p bf b r, rfl, F9.less (fun x u e => put_more (by rfl) x u (put_more (by rfl) x u e)), ok9, rfl, P1.kw fun b o hb e => k9 b o (fun q => dis b hb (.inr ⟨q1, hm1, q⟩)) (fun q => (S.out b (.inl hb)).1 (.inl q)) e, lst_refs l1 fun o e => k9 l o (fun q => rw_list R1 l1 ⟨q1, hm1, q⟩) ol e, ?_⟩
    rw [← setU_next hi]
    refine R1.setK hq1 (fun q hq => k9 _ _ (fun e => rw_inst R1 q hq ⟨q1, hm1, e⟩) (fun e => S1.fx.notOwn (R1.inst q hq) (fun _ _ q => by cases q) (fun _ q => by cases q) (.inl e)) (R1.inst q hq)) (fun q hq hne o e => k9 _ o hne (oL q hq) e) ?_
    exact D9
  · rintro h1 t1 m1 S1 ⟨rfl, P1, l1, R1⟩
    rw [hn, setU_all] at R1
    exact law_deeds (s := { s with heap := h1, toks := t1 }) T hA Bb S1 (MS.of S1 P1 l1 R1 xr hs hb hlen dis) q

/-- the buffer is made -/
theorem law_buffer {A : Around} {s : Shared} {Q : Flow → Shared → Prop} {E : Value → Shared → Prop} {qual : Str} {cd : Value} {L f : Addr} {I : Heap → Prop} {sc p c r : Addr} {bf : Bool} {rows : List Tri} (T : Tx K mg CI CB β) (hA : Lv (k + 4) A)
    (S : St β (Wp p c) I (dEnv (top 21) qual cd L f) s.heap (mR sc p bf r)) (P : Pn s.heap p c) (xr : Lst β r (tris rows)) (hs : Srt (Rb bf) rows) (hlen : rows.length ≤ 9) (hb : ∀ x ∈ rows, x.2.1 ≤ 10 ^ 9)
    (q : ∀ h' t, Sub β h' → Q (.ret (.bool true)) { s with heap := h', toks := t }) :
    wpAny (model prog w) A (execs ((bodyOf (top 21)).drop 4) (dEnv (top 21) qual cd L f)) Q E s := by
  obtain ⟨gB, kB, YB, fI, MB, DB⟩ := T.buf
  refine s_assignC (.inl (by rfl)) (e_callC S.fx T.bs T.kin (by rfl) gB kB (spl_cons hA (Gr.compInfos T S.fx (Ev.a (nl S.fx) (lst_sub S.fx.sub xr)) (by omega) (by rfl) (by rfl) (by rfl) (by rfl) (by rfl) (by decide)) fun v1 h2 t2 g2 ⟨l, as, e1, xl, xR, fl, fas⟩ =>
    spl_cons (s := { s with heap := h2, toks := t2 }) (P := fun v _ h' => Rep h' v (.bool bf)) hA (nl (S.gw g2).fx) fun v2 h3 t3 g3 e2 => spl_nil ?_))
  subst e1
  have g13 := g2.trans g3
  have P3 : Pn h3 p c := P.kw fun b o hb e => S.kwGw g13 b o hb e
  have oL : ∀ q ∈ as, q.2 ≠ (dEnv (top 21) qual cd L f).locals := fun q hq e => (S.fresh (fas q hq).2).1 (.inl e)
  have l3 := g3.lst xl
  have R3 := xR.gw g3 oL
  have dis : ∀ b, Wp p c b → ¬ Wb l as b := fun b hb hw => by
    obtain ⟨o, eo, _⟩ := P.wok b hb
    rcases hw with rfl | ⟨q, hq, rfl⟩
    · rw [fl] at eo; cases eo
    · rw [(fas q hq).2] at eo; cases eo
  have S3 : St β (Wm p c l as) (fun _ => True) (dEnv (top 21) qual cd L f) h3 (mR sc p bf r) := ⟨(S.gw g13).fx, fun b hb => by
    rcases hb with hb | rfl | ⟨q, hq, rfl⟩
    · exact S.out b hb
    · exact ⟨(S.fresh fl).1, no_get S.fx.sub fl⟩
    · exact ⟨(S.fresh (fas q hq).2).1, no_get S.fx.sub (fas q hq).2⟩, fun b hb => hb.elim (P3.wok b) (wb_wok l3 R3 b), trivial, fun _ _ _ x => x⟩
  obtain ⟨ml, nml, _⟩ := S3.fx.ns
  refine ⟨S3.fx.sub, c_buffer (s := { s with heap := h3, toks := t3 }) T hA S3.fx.sub nml S3.fx.newL (.cons rfl (.cons e2 .nil)) fun v h4 t4 g4 ⟨x, dx, e, fx, fdx, eI, D⟩ => ?_⟩
  subst e
  have S4 := S3.gw g4
  obtain ⟨β1, sb1, S5, all1⟩ := S4.rebase
  have nx := S3.fresh fx
  have nd := S3.fresh fdx
  have Bb : Bo CB β1 x l bf := ⟨dx, 3, all1 x _ nx.1 nx.2 eI, D.at fun o e => all1 dx o nd.1 nd.2 e⟩
  refine ⟨.ref x, _, β1, S5.fx, rfl, fun h6 t6 F6 k6 => ?_⟩
  have S6 : St β1 (Wm p c l as) (fun _ => True) (dEnv (top 21) qual cd L f) h6 (mL sc p bf x r) := S5.kp F6 k6
  have kw46 := S5.kwKp k6
  have T1 := T.sub sb1
  refine law_marks (s := { s with heap := h6, toks := t6 }) T1 hA Bb S6 ((P3.kw fun b o hb e => S3.kwGw g4 b o (.inl hb) e).kw fun b o hb e => kw46 b o (.inl hb) e) (lst_refs (g4.lst l3) fun o e => kw46 _ o (.inr (.inl rfl)) e) ((R3.gw g4 oL).kw (fun q hq => ?_) fun b o hb e => kw46 b o (.inr (.inr hb)) e) (lst_sub sb1 xr) hs hlen hb dis fun h7 t7 sub7 => q h7 t7 fun b o e => sub7 b o (sb1 b o e)
  have R4 := R3.gw g4 oL
  exact k6 _ _ (S4.fx.notOwn (R4.inst q hq) (fun _ _ q => by cases q) (fun _ q => by cases q)) (fun q => q) (R4.inst q hq)
end
end Mine

set_option Elab.async false
set_option maxRecDepth 100000
set_option linter.unusedVariables false
set_option autoImplicit false
set_option maxHeartbeats 2000000
namespace Mine
open PySem PySem.W PyProof.Rows PySem.Calls PySem.SeqAt

section
variable {prog : Program} {w : World} {k : Nat} {K : Frag} {mg : Str → Option Value} {CI CB : Addr} {β : Heap}

def NewPen (v : Value) (h₀ h' : Heap) : Prop := ∃ p c, v = .ref p ∧ h₀.get? p = none ∧ h₀.get? c = none ∧ Pn h' p c
theorem Gr.pen {env : Env} {h : Heap} {m : List (Str × V)} {e : Expr} {p pos : Pos} {sc : Addr} {vs : List Value} {ns : List Int} (T : Tx K mg CI CB β) (F : Fx β env h m) (hx : env.kindOf "_law_pen" = some .globalImplicit) (y : Ev prog w (k + 1) env h e (.ref sc)) (il : β.IsList sc vs.toArray) (pi : IntsAre vs ns) (hz : ns.length ≤ 63)
    (he : starEach [e] env = (false, eval e env) :: starEach [] env := by rfl) (hplain : (backTo pos (starEach [] env)).any (·.1) = false := by rfl) :
    Gr prog w (k + 1) env h (.Call (.Name "_law_pen" p) [e] [] pos) NewPen := by
  obtain ⟨fp, gp, dp⟩ := T.fn 13 (by decide)
  exact Gr.def (P := NewPen) F T.bs T.kin hx gp dp.1 (Ar.cons y Ar.nil he)
    (fun A hA s vs' R sub g pp q => pen_ok (T.sub sub) hA (dp.sub sub) pp (let ⟨o, e, r⟩ := il; ⟨o, sub _ _ e, r⟩) pi hz fun v h' t s' hv => q v h' t s' hv)
    (fun h1 h2 v h' g ⟨p, c, a, b, d, e⟩ => ⟨p, c, a, g.fresh b, g.fresh d, e⟩) he hplain

/-- the law says True -/
theorem law_ok {A : Around} {s : Shared} {f sc : Addr} {vals vs : List Value} {ns : List Int} {R : Result → Shared → Prop} (T : Tx K mg CI CB s.heap) (hA : Lv (k + 5) A) (D : Df K s.heap (top 21) f)
    (hp : Paired (Rep s.heap) vals [.ref sc]) (il : s.heap.IsList sc vs.toArray) (pi : IntsAre vs ns) (hz : ns.length ≤ 63)
    (q : ∀ h' t, Sub s.heap h' → R (.ok (.ret (.bool true))) { s with heap := h', toks := t }) :
    codeAny (model prog w) A (.call (.ref f) ⟨vals, []⟩) R s := by
  refine enterW (W := no) (I := fun _ => True) hA T.bs Sub.refl (fun b hb => hb.elim) wok_no D hp rfl trivial (fun _ _ _ x => x) fun qual cd L h1 t1 β1 E sb up' dn low fL kw S hA' => ?_
  have X := T.sub sb
  have il1 : β1.IsList sc vs.toArray := let ⟨o, e, r⟩ := il; ⟨o, sb _ _ e, r⟩
  refine x_assignN (P := NewPen) (s := { s with heap := h1, toks := t1 }) hA' S.fx (.inl (by rfl)) ((Gr.pen X S.fx (by rfl) (nl S.fx) il1 pi hz).mono fun v h₀ h' hv => by
    obtain ⟨p, c, rfl, r⟩ := hv
    exact ⟨p, rfl, p, c, rfl, r⟩) fun p h2 h3 t3 g2 hv F2 F3 k3 => ?_
  obtain ⟨p', c, ep, fp, fc, P2⟩ := hv
  injection ep with ep
  subst ep
  have nOp := (S.fresh fp).1
  have nOc := (S.fresh fc).1
  have P3 : Pn h3 p c := P2.kw fun b o hb e => k3 b o (fun hO => hb.elim (fun q => nOp (q ▸ hO)) fun q => nOc (q ▸ hO)) (fun q => q) e
  have S3 : St β1 (Wp p c) (fun _ => True) (dEnv (top 21) qual cd L f) h3 [("script", .ref sc), ("pen", .ref p)] := ⟨F3, fun b hb => by
    rcases hb with rfl | rfl
    · exact ⟨nOp, no_get S.fx.sub fp⟩
    · exact ⟨nOc, no_get S.fx.sub fc⟩, P3.wok, trivial, fun _ _ _ x => x⟩
  refine s_tupleS (s := { s with heap := h3, toks := t3 }) (xs := ["cluster", "row", "is_falling"]) hA'.hand (fun x hx => ?_) (by decide) (spl_cons (s := { s with heap := h3, toks := t3 }) (P := fun v _ h' => Rep h' v (.int 0)) hA' Ev.int fun v1 h4 t4 g4 r1 => spl_cons (s := { s with heap := h4, toks := t4 }) (P := fun v h₀ h' => ∃ l, v = .ref l ∧ Lst h' l [] ∧ h₀.get? l = none) hA' (EvL.disp Ar.nil (by decide)) fun v2 h5 t5 g5 ⟨r, e2, xr, fr⟩ => ?_)
  · have : x = "is_falling" ∨ x = "row" ∨ x = "cluster" := by simpa using hx
    rcases this with rfl | rfl | rfl
    · exact .inl (by rfl)
    · exact .inl (by rfl)
    · exact .inl (by rfl)
  subst e2
  obtain ⟨tc, rfl⟩ := r1
  have S4 := S3.gw g4
  have nr := S4.fresh fr
  have fr3 : h3.get? r = none := g4.fresh fr
  have P5 : Pn h5 p c := (P3.kw fun b o hb e => S3.kwGw g4 b o hb e).kw fun b o hb e => S4.kwGw g5 b o hb e
  have S5 := S4.gw g5
  refine spl_consC (e_drawB (s := { s with heap := h5, toks := t5 }) (n := 3) X hA' S5 (by rfl) P5 (fun b hb => hb) (nl S5.fx) Ev.int (by decide) (by decide) fun bf h6 t6 S6 P6 k6 T6 => spl_nil ?_)
  refine ⟨[.int 0, .ref r, .bool bf], _, β1, S6.fx, rfl, .cons ⟨tc, rfl⟩ (.cons rfl (.cons rfl .nil)), fun h7 t7 F7 k7 => ?_⟩
  have x7 : Lst h7 r [] := ints_lst xr (fun u hu => by cases hu) fun o e => k7 r o nr.1 (fun q => q) (k6 r o nr.2 (fun q => nr.1 (.inl q)) e)
  have P7 : Pn h7 p c := P6.kw fun b o hb e => S6.kwKp k7 b o hb e
  have F7 : Fx β1 (dEnv (top 21) qual cd L f) h7 ([("script", .ref sc), ("pen", .ref p), ("is_falling", .bool bf), ("row", .ref r), ("cluster", .int 0)] : List (Str × V)) := F7
  have X7 : BS p c r h7 [] 0 0 := ⟨P7, x7, .nil, (fun x hx => by cases hx), by decide, rfl⟩
  have S7 : St β1 (W1 p c r) (fun _ => True) (dEnv (top 21) qual cd L f) h7 (mA sc p bf r 0) := ⟨F7, fun b hb => by
    rcases hb with hb | rfl
    · exact S3.out b hb
    · exact ⟨nr.1, no_get S4.fx.sub fr⟩, X7.wok, trivial, fun _ _ _ x => x⟩
  refine law_rows (s := { s with heap := h7, toks := t7 }) X hA' S7 X7 nr.2 fun h8 t8 β8 r' rows' sb8 S8 P8 x8 hs hlen hb => ?_
  exact law_buffer (s := { s with heap := h8, toks := t8 }) (X.sub sb8) hA' S8 P8 x8 hs hlen hb fun h9 t9 s9 => q h9 t9 fun b o e => dn h9 (fun b o e => s9 b o (sb8 b o e)) b o (fun q => q) e
end
end Mine

set_option Elab.async false
set_option maxRecDepth 100000
set_option linter.unusedVariables false
set_option autoImplicit false
set_option maxHeartbeats 2000000
namespace Mine
open PySem PySem.W PyProof.Rows PySem.Calls PySem.SeqAt

def paramsOf : Stmt → Arguments
  | .FunctionDef _ a .. => a
  | _ => default
def pmB : Value := .str "joinedhand.buffer" 194
def pmL : Value := .str "law_nu0155_01" 377
/-- the object of a def -/
def objOf (d : Stmt) (qual : Str) (dV pm cdv : Value) : Obj := { cls := .type "function", data := .func (fnOf (nameOf d) qual (paramsOf d) (bodyOf d) (scopeOf d) dV .none .none pm none cdv .none) }
theorem df_of {K : Frag} {h : Heap} {d : Stmt} {qual : Str} {dV pm cdv : Value} {a : Addr} (X : K.In h) (e : K.lookup a = some (objOf d qual dV pm cdv)) (k : keepIn K (.ref a) = true) (c : codeIn K cdv qual = true) (ok : okFn (argsOf d) (scopeOf d) = true)
    (b : ∀ vals : List Value, vals.length = (argsOf d).length → ∀ s : Shared, Sub h s.heap → BindsTo s (fnOf (nameOf d) qual (paramsOf d) (bodyOf d) (scopeOf d) dV .none .none pm none cdv .none) ⟨vals, []⟩ ((argsOf d).zip vals)) : Df K h d a :=
  ⟨k, ⟨_, _, _, _, _, _, _, _, _, _, _, _, _, X a _ e, codeRec_of X c, b⟩, ok⟩
/-- an entry of a namespace -/
def ent (P : Params) (x : Str) (t : Nat) (v : Value) : DictEntry := .mk (PyData.keyHash P x) (.str x t) v
/-- a code object of the text -/
def codeO (n q : Str) (t u f : Nat) (l c : Int) (a : Addr) (z : Int) (b : Addr) (x y : Value) (d : Addr) (i j : Int) (g : Nat) : Obj :=
  .mk (.type "code") .none (.fields #[.str n t, .str q u, .str "/claim/cut.py" f, .int l 0, .int c 0, .int 0 0, .int 0 0, .int 3 0, .ref a, .bool .true, .int z 0, .ref b, .none, x, y, .ref d, .int i 0, .int j 0, .str "/claim/cut.py" g]) #[]
/-- what of the head's heap the proof asks for -/
def KK (P : Params) : Frag :=
  [(3, .mk (.type "dict") .none (.dict #[ent P "__name__" 165 (.str "law_nu0155_01" 377), ent P "__doc__" 166 .none, ent P "__package__" 167 .none, ent P "__loader__" 168 (.builtin "__main__.__loader__#opaque"), ent P "__spec__" 169 .none, ent P "__annotations__" 170 (.ref 6), ent P "__builtins__" 171 (.ref 4), ent P "__file__" 173 (.str "/claim/cut.py" 172), ent P "__cached__" 174 .none, ent P "_wall" 193 (.ref 21), ent P "Info" 255 (.ref 52), ent P "Buffer" 313 (.ref 98), ent P "group_ends" 319 (.ref 107), ent P "set_cluster" 327 (.ref 114), ent P "widened" 338 (.ref 121), ent P "merge" 344 (.ref 126), ent P "hang" 350 (.ref 131), ent P "drop_cluster" 356 (.ref 136), ent P "put" 370 (.ref 143), ent P "spread_unsafe" 376 (.ref 148), ent P "_law_pen" 384 (.ref 153), ent P "_law_draw" 393 (.ref 160), ent P "_law_pick" 401 (.ref 167), ent P "_law_merged" 407 (.ref 172), ent P "_law_hung" 413 (.ref 177), ent P "_law_put" 419 (.ref 182), ent P "_law_ends" 425 (.ref 187), ent P "_law_told" 431 (.ref 192), ent P "law" 437 (.ref 197)] 29) #[]),
    (34, codeO "__init__" "Info.__init__" 208 209 210 7 4 29 181 30 (.ref 31) (.ref 32) 33 215 7 216),
    (35, objOf (meth 2 0) "Info.__init__" .none pmB (.ref 34)),
    (41, codeO "copied" "Info.copied" 218 219 220 24 1 36 181 37 (.ref 38) (.ref 39) 40 223 24 224),
    (42, objOf (meth 2 1) "Info.copied" .none pmB (.ref 41)),
    (51, .mk (.type "dict") .none (.dict #[ent P "__module__" 203 (.str "joinedhand.buffer" 194), ent P "__firstlineno__" 207 (.int 5 206), ent P "__init__" 217 (.ref 35), ent P "copied" 225 (.ref 42), ent P "told" 232 (.ref 49), ent P "__static_attributes__" 248 (.ref 50), ent P "__dict__" 250 (.ref 53), ent P "__weakref__" 252 (.ref 54), ent P "__doc__" 253 .none] 4) #[]),
    (52, .mk (.type "type") .none (.cls (.mk "Info" [.type "object"] [.ref 52, .type "object"] 51 "Info" .true [] [] .false .none .false)) #[.none, .none, .some (.str "Info" 196), .some (.str "Info" 204), .some (.builtin "object.__new__"), .some (.bool .true)]),
    (53, .mk (.type "getset_descriptor") .none (.fields #[.str "__dict__" 249, .ref 52, .builtin "function.__dict__", .builtin "function.__dict__#set"]) #[]),
    (54, .mk (.type "getset_descriptor") .none (.fields #[.str "__weakref__" 251, .ref 52, .builtin "ExceptionGroup.__weakref__", .none]) #[]),
    (64, .mk (.type "tuple") .none (.seq #[.bool .false]) #[]),
    (70, codeO "__init__" "Buffer.__init__" 268 269 270 44 3 65 181 66 (.ref 67) (.ref 68) 69 274 44 275),
    (71, objOf (meth 3 0) "Buffer.__init__" (.ref 64) pmB (.ref 70)),
    (97, .mk (.type "dict") .none (.dict #[ent P "__module__" 263 (.str "joinedhand.buffer" 194), ent P "__firstlineno__" 267 (.int 42 266), ent P "__init__" 276 (.ref 71), ent P "glyphs" 282 (.ref 76), ent P "clusters" 288 (.ref 81), ent P "told" 295 (.ref 88), ent P "next_lig" 302 (.ref 95), ent P "__static_attributes__" 306 (.ref 96), ent P "__dict__" 308 (.ref 99), ent P "__weakref__" 310 (.ref 100), ent P "__doc__" 311 .none] 4) #[]),
    (98, .mk (.type "type") .none (.cls (.mk "Buffer" [.type "object"] [.ref 98, .type "object"] 97 "Buffer" .true [] [] .false .none .false)) #[.none, .none, .some (.str "Buffer" 256), .some (.str "Buffer" 264), .some (.builtin "object.__new__"), .some (.bool .true)]),
    (99, .mk (.type "getset_descriptor") .none (.fields #[.str "__dict__" 307, .ref 98, .builtin "function.__dict__", .builtin "function.__dict__#set"]) #[]),
    (100, .mk (.type "getset_descriptor") .none (.fields #[.str "__weakref__" 309, .ref 98, .builtin "ExceptionGroup.__weakref__", .none]) #[]),
    (106, codeO "group_ends" "group_ends" 314 315 316 60 1 103 181 104 (.none) (.none) 105 317 60 318),
    (107, objOf (top 4) (nameOf (top 4)) .none pmB (.ref 106)),
    (113, codeO "set_cluster" "set_cluster" 320 321 322 63 2 108 181 109 (.ref 110) (.ref 111) 112 325 63 326),
    (114, objOf (top 5) (nameOf (top 5)) .none pmB (.ref 113)),
    (120, codeO "widened" "widened" 328 329 330 67 3 115 181 116 (.ref 117) (.ref 118) 119 336 67 337),
    (121, objOf (top 6) (nameOf (top 6)) .none pmB (.ref 120)),
    (125, codeO "merge" "merge" 339 340 341 75 3 122 181 123 (.none) (.none) 124 342 75 343),
    (126, objOf (top 7) (nameOf (top 7)) .none pmB (.ref 125)),
    (130, codeO "hang" "hang" 345 346 347 82 3 127 181 128 (.none) (.none) 129 348 82 349),
    (131, objOf (top 8) (nameOf (top 8)) .none pmB (.ref 130)),
    (135, codeO "drop_cluster" "drop_cluster" 351 352 353 90 2 132 181 133 (.none) (.none) 134 354 90 355),
    (136, objOf (top 9) (nameOf (top 9)) .none pmB (.ref 135)),
    (142, codeO "put" "put" 357 358 359 104 4 137 181 138 (.ref 139) (.ref 140) 141 368 104 369),
    (143, objOf (top 10) (nameOf (top 10)) .none pmB (.ref 142)),
    (147, codeO "spread_unsafe" "spread_unsafe" 371 372 373 118 1 144 181 145 (.none) (.none) 146 374 118 375),
    (148, objOf (top 11) (nameOf (top 11)) .none pmB (.ref 147)),
    (152, codeO "_law_pen" "_law_pen" 379 380 381 127 1 149 181 150 (.none) (.none) 151 382 127 383),
    (153, objOf (top 13) (nameOf (top 13)) .none pmL (.ref 152)),
    (159, codeO "_law_draw" "_law_draw" 385 386 387 129 2 154 181 155 (.ref 156) (.ref 157) 158 391 129 392),
    (160, objOf (top 14) (nameOf (top 14)) .none pmL (.ref 159)),
    (166, codeO "_law_pick" "_law_pick" 394 395 396 136 2 161 181 162 (.ref 163) (.ref 164) 165 399 136 400),
    (167, objOf (top 15) (nameOf (top 15)) .none pmL (.ref 166)),
    (171, codeO "_law_merged" "_law_merged" 402 403 404 138 3 168 181 169 (.none) (.none) 170 405 138 406),
    (172, objOf (top 16) (nameOf (top 16)) .none pmL (.ref 171)),
    (176, codeO "_law_hung" "_law_hung" 408 409 410 150 3 173 181 174 (.none) (.none) 175 411 150 412),
    (177, objOf (top 17) (nameOf (top 17)) .none pmL (.ref 176)),
    (181, codeO "_law_put" "_law_put" 414 415 416 154 4 178 181 179 (.none) (.none) 180 417 154 418),
    (182, objOf (top 18) (nameOf (top 18)) .none pmL (.ref 181)),
    (186, codeO "_law_ends" "_law_ends" 420 421 422 168 1 183 181 184 (.none) (.none) 185 423 168 424),
    (187, objOf (top 19) (nameOf (top 19)) .none pmL (.ref 186)),
    (191, codeO "_law_told" "_law_told" 426 427 428 170 1 188 181 189 (.none) (.none) 190 429 170 430),
    (192, objOf (top 20) (nameOf (top 20)) .none pmL (.ref 191)),
    (196, codeO "law" "law" 432 433 434 172 1 193 181 194 (.none) (.none) 195 435 172 436),
    (197, objOf (top 21) (nameOf (top 21)) .none pmL (.ref 196))] 
def asK : List Addr := [3, 34, 35, 41, 42, 51, 52, 53, 54, 64, 70, 71, 97, 98, 99, 100, 106, 107, 113, 114, 120, 121, 125, 126, 130, 131, 135, 136, 142, 143, 147, 148, 152, 153, 159, 160, 166, 167, 171, 172, 176, 177, 181, 182, 186, 187, 191, 192, 196, 197]
def hK : Hook := kHook KK asK (fun _ => by kernel_rfl)
theorem list1 {vals : List Value} (h : vals.length = 1) : ∃ a, vals = [a] := by
  match vals, h with | [a], _ => exact ⟨a, rfl⟩
theorem list2 {vals : List Value} (h : vals.length = 2) : ∃ a b, vals = [a, b] := by
  match vals, h with | [a, b], _ => exact ⟨a, b, rfl⟩
theorem list3 {vals : List Value} (h : vals.length = 3) : ∃ a b c, vals = [a, b, c] := by
  match vals, h with | [a, b, c], _ => exact ⟨a, b, c, rfl⟩
theorem list4 {vals : List Value} (h : vals.length = 4) : ∃ a b c d, vals = [a, b, c, d] := by
  match vals, h with | [a, b, c, d], _ => exact ⟨a, b, c, d, rfl⟩

theorem df_4 {P : Params} {h : Heap} (X : (KK P).In h) : Df (KK P) h (top 4) 107 :=
  df_of (qual := (nameOf (top 4))) (dV := .none) (pm := pmB) (cdv := .ref 106) X (by kernel_rfl) (by kernel_rfl) (by kernel_rfl) (by decide) fun vals hv s sub => by
    obtain ⟨a, rfl⟩ := list1 hv
    exact .of_eq rfl
theorem df_5 {P : Params} {h : Heap} (X : (KK P).In h) : Df (KK P) h (top 5) 114 :=
  df_of (qual := (nameOf (top 5))) (dV := .none) (pm := pmB) (cdv := .ref 113) X (by kernel_rfl) (by kernel_rfl) (by kernel_rfl) (by decide) fun vals hv s sub => by
    obtain ⟨a, b, rfl⟩ := list2 hv
    exact .of_eq rfl
theorem df_6 {P : Params} {h : Heap} (X : (KK P).In h) : Df (KK P) h (top 6) 121 :=
  df_of (qual := (nameOf (top 6))) (dV := .none) (pm := pmB) (cdv := .ref 120) X (by kernel_rfl) (by kernel_rfl) (by kernel_rfl) (by decide) fun vals hv s sub => by
    obtain ⟨a, b, c, rfl⟩ := list3 hv
    exact .of_eq rfl
theorem df_7 {P : Params} {h : Heap} (X : (KK P).In h) : Df (KK P) h (top 7) 126 :=
  df_of (qual := (nameOf (top 7))) (dV := .none) (pm := pmB) (cdv := .ref 125) X (by kernel_rfl) (by kernel_rfl) (by kernel_rfl) (by decide) fun vals hv s sub => by
    obtain ⟨a, b, c, rfl⟩ := list3 hv
    exact .of_eq rfl
theorem df_8 {P : Params} {h : Heap} (X : (KK P).In h) : Df (KK P) h (top 8) 131 :=
  df_of (qual := (nameOf (top 8))) (dV := .none) (pm := pmB) (cdv := .ref 130) X (by kernel_rfl) (by kernel_rfl) (by kernel_rfl) (by decide) fun vals hv s sub => by
    obtain ⟨a, b, c, rfl⟩ := list3 hv
    exact .of_eq rfl
theorem df_9 {P : Params} {h : Heap} (X : (KK P).In h) : Df (KK P) h (top 9) 136 :=
  df_of (qual := (nameOf (top 9))) (dV := .none) (pm := pmB) (cdv := .ref 135) X (by kernel_rfl) (by kernel_rfl) (by kernel_rfl) (by decide) fun vals hv s sub => by
    obtain ⟨a, b, rfl⟩ := list2 hv
    exact .of_eq rfl
theorem df_10 {P : Params} {h : Heap} (X : (KK P).In h) : Df (KK P) h (top 10) 143 :=
  df_of (qual := (nameOf (top 10))) (dV := .none) (pm := pmB) (cdv := .ref 142) X (by kernel_rfl) (by kernel_rfl) (by kernel_rfl) (by decide) fun vals hv s sub => by
    obtain ⟨a, b, c, d, rfl⟩ := list4 hv
    exact .of_eq rfl
theorem df_11 {P : Params} {h : Heap} (X : (KK P).In h) : Df (KK P) h (top 11) 148 :=
  df_of (qual := (nameOf (top 11))) (dV := .none) (pm := pmB) (cdv := .ref 147) X (by kernel_rfl) (by kernel_rfl) (by kernel_rfl) (by decide) fun vals hv s sub => by
    obtain ⟨a, rfl⟩ := list1 hv
    exact .of_eq rfl
theorem df_13 {P : Params} {h : Heap} (X : (KK P).In h) : Df (KK P) h (top 13) 153 :=
  df_of (qual := (nameOf (top 13))) (dV := .none) (pm := pmL) (cdv := .ref 152) X (by kernel_rfl) (by kernel_rfl) (by kernel_rfl) (by decide) fun vals hv s sub => by
    obtain ⟨a, rfl⟩ := list1 hv
    exact .of_eq rfl
theorem df_14 {P : Params} {h : Heap} (X : (KK P).In h) : Df (KK P) h (top 14) 160 :=
  df_of (qual := (nameOf (top 14))) (dV := .none) (pm := pmL) (cdv := .ref 159) X (by kernel_rfl) (by kernel_rfl) (by kernel_rfl) (by decide) fun vals hv s sub => by
    obtain ⟨a, b, rfl⟩ := list2 hv
    exact .of_eq rfl
theorem df_15 {P : Params} {h : Heap} (X : (KK P).In h) : Df (KK P) h (top 15) 167 :=
  df_of (qual := (nameOf (top 15))) (dV := .none) (pm := pmL) (cdv := .ref 166) X (by kernel_rfl) (by kernel_rfl) (by kernel_rfl) (by decide) fun vals hv s sub => by
    obtain ⟨a, b, rfl⟩ := list2 hv
    exact .of_eq rfl
theorem df_16 {P : Params} {h : Heap} (X : (KK P).In h) : Df (KK P) h (top 16) 172 :=
  df_of (qual := (nameOf (top 16))) (dV := .none) (pm := pmL) (cdv := .ref 171) X (by kernel_rfl) (by kernel_rfl) (by kernel_rfl) (by decide) fun vals hv s sub => by
    obtain ⟨a, b, c, rfl⟩ := list3 hv
    exact .of_eq rfl
theorem df_17 {P : Params} {h : Heap} (X : (KK P).In h) : Df (KK P) h (top 17) 177 :=
  df_of (qual := (nameOf (top 17))) (dV := .none) (pm := pmL) (cdv := .ref 176) X (by kernel_rfl) (by kernel_rfl) (by kernel_rfl) (by decide) fun vals hv s sub => by
    obtain ⟨a, b, c, rfl⟩ := list3 hv
    exact .of_eq rfl
theorem df_18 {P : Params} {h : Heap} (X : (KK P).In h) : Df (KK P) h (top 18) 182 :=
  df_of (qual := (nameOf (top 18))) (dV := .none) (pm := pmL) (cdv := .ref 181) X (by kernel_rfl) (by kernel_rfl) (by kernel_rfl) (by decide) fun vals hv s sub => by
    obtain ⟨a, b, c, d, rfl⟩ := list4 hv
    exact .of_eq rfl
theorem df_19 {P : Params} {h : Heap} (X : (KK P).In h) : Df (KK P) h (top 19) 187 :=
  df_of (qual := (nameOf (top 19))) (dV := .none) (pm := pmL) (cdv := .ref 186) X (by kernel_rfl) (by kernel_rfl) (by kernel_rfl) (by decide) fun vals hv s sub => by
    obtain ⟨a, rfl⟩ := list1 hv
    exact .of_eq rfl
theorem df_20 {P : Params} {h : Heap} (X : (KK P).In h) : Df (KK P) h (top 20) 192 :=
  df_of (qual := (nameOf (top 20))) (dV := .none) (pm := pmL) (cdv := .ref 191) X (by kernel_rfl) (by kernel_rfl) (by kernel_rfl) (by decide) fun vals hv s sub => by
    obtain ⟨a, rfl⟩ := list1 hv
    exact .of_eq rfl
theorem df_21 {P : Params} {h : Heap} (X : (KK P).In h) : Df (KK P) h (top 21) 197 :=
  df_of (qual := (nameOf (top 21))) (dV := .none) (pm := pmL) (cdv := .ref 196) X (by kernel_rfl) (by kernel_rfl) (by kernel_rfl) (by decide) fun vals hv s sub => by
    obtain ⟨a, rfl⟩ := list1 hv
    exact .of_eq rfl
theorem df_info {P : Params} {h : Heap} (X : (KK P).In h) : Df (KK P) h (meth 2 0) 35 :=
  df_of (qual := "Info.__init__") (dV := .none) (pm := pmB) (cdv := .ref 34) X (by kernel_rfl) (by kernel_rfl) (by kernel_rfl) (by decide) fun vals hv s sub => by
    obtain ⟨a, b, c, d, rfl⟩ := list4 hv
    exact .of_eq rfl
theorem df_copied {P : Params} {h : Heap} (X : (KK P).In h) : Df (KK P) h (meth 2 1) 42 :=
  df_of (qual := "Info.copied") (dV := .none) (pm := pmB) (cdv := .ref 41) X (by kernel_rfl) (by kernel_rfl) (by kernel_rfl) (by decide) fun vals hv s sub => by
    obtain ⟨a, rfl⟩ := list1 hv
    exact .of_eq rfl
theorem df_buf {P : Params} {h : Heap} (X : (KK P).In h) : Df (KK P) h (meth 3 0) 71 :=
  df_of (qual := "Buffer.__init__") (dV := (.ref 64)) (pm := pmB) (cdv := .ref 70) X (by kernel_rfl) (by kernel_rfl) (by kernel_rfl) (by decide) fun vals hv s sub => by
    obtain ⟨a, b, c, rfl⟩ := list3 hv
    exact .of_defaults (T := 64) (o := { cls := .type "tuple", data := .seq #[.bool false] }) rfl (sub _ _ (X 64 _ (by kernel_rfl))) rfl rfl rfl
end Mine

set_option Elab.async false
set_option maxRecDepth 100000
set_option linter.unusedVariables false
set_option autoImplicit false
set_option maxHeartbeats 2000000
namespace Mine
open PySem PySem.W PyProof.Rows PySem.Calls PySem.SeqAt

theorem all_of {α : Type} {p : α → Prop} : ∀ {l : List α}, l.foldr (fun x q => p x ∧ q) True → ∀ x ∈ l, p x
  | [], _, x, hx => by cases hx
  | a :: l, h, x, hx => by
    rcases List.mem_cons.mp hx with rfl | hx
    · exact h.1
    · exact all_of h.2 x hx
theorem kc_info {P : Params} : Kc (KK P) 52 infoN :=
  ⟨by kernel_rfl, by kernel_rfl, by kernel_rfl, by kernel_rfl, all_of ⟨by kernel_rfl, by kernel_rfl, by kernel_rfl, by kernel_rfl, by kernel_rfl, by kernel_rfl, by kernel_rfl, by kernel_rfl, by kernel_rfl, by kernel_rfl, by kernel_rfl, by kernel_rfl, by kernel_rfl, by kernel_rfl, by kernel_rfl, trivial⟩⟩
theorem kc_buf {P : Params} : Kc (KK P) 98 bufN :=
  ⟨by kernel_rfl, by kernel_rfl, by kernel_rfl, by kernel_rfl, all_of ⟨by kernel_rfl, by kernel_rfl, by kernel_rfl, trivial⟩⟩
/-- the text stands at the head's heap -/
theorem tx_of {P : Params} {h : Heap} {mg mb : Str → Option Value} (X : (KK P).In h) (g : h.Ns mainGlobals mg) (b : h.Ns builtinsNs mb) (bb : ∀ x : Str, x ≠ "__name__" → mb x = bootBuiltins x) (lim : h.NoLimit) : Tx (KK P) mg 52 98 h where
  bs := ⟨g, ⟨mb, b, bb⟩, lim⟩
  kin := X
  none := all_of ⟨mg_none_of X g (by kernel_rfl), mg_none_of X g (by kernel_rfl), mg_none_of X g (by kernel_rfl), mg_none_of X g (by kernel_rfl), mg_none_of X g (by kernel_rfl), mg_none_of X g (by kernel_rfl), mg_none_of X g (by kernel_rfl), mg_none_of X g (by kernel_rfl), trivial⟩
  fn := all_of ⟨⟨107, mg_of X g (by kernel_rfl), df_4 X⟩, ⟨114, mg_of X g (by kernel_rfl), df_5 X⟩, ⟨121, mg_of X g (by kernel_rfl), df_6 X⟩, ⟨126, mg_of X g (by kernel_rfl), df_7 X⟩, ⟨131, mg_of X g (by kernel_rfl), df_8 X⟩, ⟨136, mg_of X g (by kernel_rfl), df_9 X⟩, ⟨143, mg_of X g (by kernel_rfl), df_10 X⟩, ⟨148, mg_of X g (by kernel_rfl), df_11 X⟩, ⟨153, mg_of X g (by kernel_rfl), df_13 X⟩, ⟨160, mg_of X g (by kernel_rfl), df_14 X⟩, ⟨167, mg_of X g (by kernel_rfl), df_15 X⟩, ⟨172, mg_of X g (by kernel_rfl), df_16 X⟩, ⟨177, mg_of X g (by kernel_rfl), df_17 X⟩, ⟨182, mg_of X g (by kernel_rfl), df_18 X⟩, ⟨187, mg_of X g (by kernel_rfl), df_19 X⟩, ⟨192, mg_of X g (by kernel_rfl), df_20 X⟩, trivial⟩
  info := ⟨mg_of X g (by kernel_rfl), by kernel_rfl, kc_info, 35, ⟨by kernel_rfl, by kernel_rfl, by kernel_rfl⟩, df_info X⟩
  copied := ⟨by kernel_rfl, 42, by kernel_rfl, by kernel_rfl, df_copied X⟩
  buf := ⟨mg_of X g (by kernel_rfl), by kernel_rfl, kc_buf, 71, ⟨by kernel_rfl, by kernel_rfl, by kernel_rfl⟩, df_buf X⟩
end Mine

set_option Elab.async false
set_option maxRecDepth 100000
set_option linter.unusedVariables false
open PySem PySem.W PyProof.Rows
namespace Mine
theorem lv_caller : Lv 5 callerA := ⟨rfl, by decide +kernel, by decide +kernel⟩
theorem law_call {prog : Program} {w : World} {P : Params} {s : Shared} {mg mb : Str → Option Value} {fa l : Addr} {vs : List Value} {ns : List Int} {Q E : Value → Shared → Prop} (X : (KK P).In s.heap) (g : s.heap.Ns mainGlobals mg) (b : s.heap.Ns builtinsNs mb) (bb : ∀ x : Str, x ≠ "__name__" → mb x = bootBuiltins x) (lim : s.heap.NoLimit)
    (hf : mg "law" = some (.ref fa)) (hl : s.heap.IsList l vs.toArray) (hi : IntsAre vs ns) (hz : ns.length ≤ 63)
    (q : ∀ h' t, (∀ b o, s.heap.get? b = some o → h'.get? b = some o) → Q (.bool true) { s with heap := h', toks := t }) :
    wpAny (model prog w) callerA (call (.ref fa) [.ref l]) Q E s := by
  have e := hf.symm.trans (mg_of X g (n := "law") (v := .ref 197) (by kernel_rfl))
  cases e
  exact wpAny_call (law_ok (k := 0) (tx_of X g b bb lim) lv_caller (df_21 X) (.cons rfl .nil) hl hi hz q)
end Mine
set_option maxRecDepth 100000 in
set_option maxHeartbeats 8000000 in
theorem PySem.Challenge.cw_nu0155_01_holds : PySem.Challenge.rw_nu0155_01.Holds := by
  w_on
  o_law
  o_head Mine.hK
  (case hw => w_witness2)
  intro w s₀ s₁ mg mb G Y fa o pm cd doc dV kV ho hd hcd hD hmg hg args vals as hpre hlay hrd hwl hlo
  have KX : (Mine.KK w.params).In s₁.heap := kIn_of Y
  refine Ground.open G ?_
  intro T B D TE TW
  clear Y ho hd hcd hD G B D TE TW
  have hmg : mg (Str.ofString "law") = some (.ref fa) := hmg
  wrow_args hpre hlay hrd hwl hlo
  all_goals
    refine Mine.law_call KX T.g T.b T.builtins T.nolimit hmg (by assumption) (by assumption) (by omega) fun h' t sub => GoodW.toG ⟨.inl ⟨.bool true, .bool true, [], rfl, raisesW_false (by wrow_none_raised), .bool true, by wrow_post, unshared_nil⟩, sub, rfl, hg⟩
