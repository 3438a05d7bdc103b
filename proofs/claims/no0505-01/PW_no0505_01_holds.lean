import PyProof.Rows.All
import Wide.All
import OpenK.AllK
import Wide.FinOn
import PySem.Challenge.RW_no0505_01
open PySem PySem.Spec PySem.Calls PyProof.Rows PySem.W
set_option Elab.async false
set_option linter.unusedVariables false
set_option linter.unusedSimpArgs false
set_option maxRecDepth 100000
namespace Mine

/-- the immutable part of a heap -/
abbrev Im := Addr → Option Obj

abbrev tupObj (vs : List Value) (n : Nat) : Obj := { cls := .type "tuple", dict := none, data := .seq vs.toArray n, slots := #[] }
abbrev lstObj (vs : List Value) (n : Nat) : Obj := { cls := .type "list", dict := none, data := .seq vs.toArray n, slots := #[] }
abbrev rngObj (a b c : Int) (t u v : Tok) : Obj := { cls := .type "range", dict := none, data := .fields #[.int a t, .int b u, .int c v], slots := #[] }

/-- ghost data -/
inductive D where
  | none
  | bool (b : Bool)
  | int (i : Int)
  | str (x : Str)
  | tup (ds : List D)
  | lst (ds : List D)
  | rng (a b c : Int)
  | ptr (n : Nat)
  | inst (C : Addr) (n : Nat)
  | obj (C : Addr) (fs : List (Str × D))
  | raw (v : Value)

mutual
inductive At (g : Im) (as : List Addr) : Value → D → Prop
  | none : At g as .none .none
  | bool (b : Bool) : At g as (.bool b) (.bool b)
  | int (i : Int) (t : Tok) : At g as (.int i t) (.int i)
  | str (x : Str) (t : Tok) : At g as (.str x t) (.str x)
  | tup {a vs n ds} : g a = some (tupObj vs n) → Ats g as vs ds → At g as (.ref a) (.tup ds)
  | lst {a vs n ds} : g a = some (lstObj vs n) → Ats g as vs ds → At g as (.ref a) (.lst ds)
  | rng {a x y z t u v} : g a = some (rngObj x y z t u v) → At g as (.ref a) (.rng x y z)
  | ptr {n a} : as[n]? = some a → At g as (.ref a) (.ptr n)
  | inst {C n a d} : g a = some (instObj C d) → as[n]? = some d → At g as (.ref a) (.inst C n)
  | obj {C a d es n fs} : g a = some (instObj C d) → g d = some (dictOf es n) → Flds g as es fs → At g as (.ref a) (.obj C fs)
  | raw (v : Value) : At g as v (.raw v)
inductive Ats (g : Im) (as : List Addr) : List Value → List D → Prop
  | nil : Ats g as [] []
  | cons {v d vs ds} : At g as v d → Ats g as vs ds → Ats g as (v :: vs) (d :: ds)
inductive Flds (g : Im) (as : List Addr) : List DictEntry → List (Str × D) → Prop
  | nil : Flds g as [] []
  | cons {h x t v d es fs} : At g as v d → Flds g as es fs → Flds g as (⟨h, .str x t, v⟩ :: es) ((x, d) :: fs)
end

def Sub (g g' : Im) : Prop := ∀ a o, g a = some o → g' a = some o
theorem Sub.refl (g : Im) : Sub g g := fun _ _ e => e
theorem Sub.trans {g g' g'' : Im} (x : Sub g g') (y : Sub g' g'') : Sub g g'' := fun a o e => y a o (x a o e)

theorem pre_get {as l : List Addr} {n : Nat} {a : Addr} (e : as[n]? = some a) : (as ++ l)[n]? = some a := by
  rw [List.getElem?_append_left (List.getElem?_eq_some_iff.mp e).1]; exact e

mutual
theorem At.mono {g g' : Im} {as l : List Addr} (S : Sub g g') {v : Value} {d : D} : At g as v d → At g' (as ++ l) v d
  | .none => .none
  | .bool b => .bool b
  | .int i t => .int i t
  | .str x t => .str x t
  | .tup h r => .tup (S _ _ h) (Ats.mono S r)
  | .lst h r => .lst (S _ _ h) (Ats.mono S r)
  | .rng h => .rng (S _ _ h)
  | .ptr h => .ptr (pre_get h)
  | .inst h k => .inst (S _ _ h) (pre_get k)
  | .obj h k r => .obj (S _ _ h) (S _ _ k) (Flds.mono S r)
  | .raw v => .raw v
theorem Ats.mono {g g' : Im} {as l : List Addr} (S : Sub g g') {vs : List Value} {ds : List D} : Ats g as vs ds → Ats g' (as ++ l) vs ds
  | .nil => .nil
  | .cons h r => .cons (At.mono S h) (Ats.mono S r)
theorem Flds.mono {g g' : Im} {as l : List Addr} (S : Sub g g') {es : List DictEntry} {fs : List (Str × D)} : Flds g as es fs → Flds g' (as ++ l) es fs
  | .nil => .nil
  | .cons h r => .cons (At.mono S h) (Flds.mono S r)
end

theorem Ats.length {g : Im} {as : List Addr} {vs : List Value} {ds : List D} (h : Ats g as vs ds) : vs.length = ds.length := by
  induction ds generalizing vs with
  | nil => cases h; rfl
  | cons d ds ih => cases h with | cons a r => simp [ih r]
theorem Ats.get {g : Im} {as : List Addr} {vs : List Value} {ds : List D} (h : Ats g as vs ds) {k : Nat} {d : D} (e : ds[k]? = some d) : ∃ v, vs[k]? = some v ∧ At g as v d := by
  induction ds generalizing vs k with
  | nil => simp at e
  | cons d0 ds ih =>
    cases h with
    | cons a r =>
      cases k with
      | zero => simp at e; subst e; exact ⟨_, rfl, a⟩
      | succ k => simp at e; obtain ⟨v, hv, h⟩ := ih r e; exact ⟨v, by simpa using hv, h⟩
theorem Ats.append {g : Im} {as : List Addr} {vs ws : List Value} {ds es : List D} (h : Ats g as vs ds) (k : Ats g as ws es) : Ats g as (vs ++ ws) (ds ++ es) := by
  induction ds generalizing vs with
  | nil => cases h; exact k
  | cons d ds ih => cases h with | cons a r => exact .cons a (ih r)
theorem Ats.set {g : Im} {as : List Addr} {vs : List Value} {ds : List D} (h : Ats g as vs ds) {v : Value} {d : D} (hv : At g as v d) (k : Nat) : Ats g as (vs.set k v) (ds.set k d) := by
  induction ds generalizing vs k with
  | nil => cases h; exact .nil
  | cons d0 ds ih =>
    cases h with
    | cons a r =>
      cases k with
      | zero => exact .cons hv r
      | succ k => exact .cons a (ih r k)

/-- contents of a mutable location -/
inductive MObj where
  | lst (ds : List D)
  | dct (fs : List (Str × D))
  | dead

def MAt (g : Im) (as : List Addr) (h : Heap) (a : Addr) : MObj → Prop
  | .lst ds => g a = none ∧ ∃ vs n, h.get? a = some (lstObj vs n) ∧ Ats g as vs ds
  | .dct fs => g a = none ∧ ∃ es n, h.get? a = some (dictOf es n) ∧ Flds g as es fs
  | .dead => (h.get? a).isSome = true

structure Cx where
  prog : Program
  w : World
  H0 : Heap
  os : OsState
  mg : Str → Option Value
  mb : Str → Option Value
  K : Frag

structure Cx.Ok (C : Cx) : Prop where
  kin : C.K.In C.H0
  g : C.H0.Ns mainGlobals C.mg
  b : C.H0.Ns builtinsNs C.mb
  lim : C.H0.NoLimit
  seer : C.H0.NoSeer
  tree : C.prog.given.tree = none

structure W (C : Cx) (g : Im) (as : List Addr) (tr : List MObj) (s : Shared) : Prop where
  ok : C.Ok
  base : ∀ b o, C.H0.get? b = some o → g b = some o
  sub : ∀ b o, g b = some o → s.heap.get? b = some o
  os : s.os = C.os
  gens : s.gens = #[]
  nod : as.Nodup
  len : as.length = tr.length
  mob : ∀ (n : Nat) (a : Addr) (m : MObj), as[n]? = some a → tr[n]? = some m → MAt g as s.heap a m

structure Grow (wr : Addr → Prop) (g : Im) (as : List Addr) (s : Shared) (g' : Im) (as' : List Addr) (s' : Shared) : Prop where
  sub : Sub g g'
  pre : ∃ l, as' = as ++ l
  keep : ∀ b o, b ∉ as → ¬ wr b → s.heap.get? b = some o → s'.heap.get? b = some o
  alive : ∀ b o, s.heap.get? b = some o → ∃ o', s'.heap.get? b = some o'
  fresh : ∀ b o, g' b = some o → g b = none → b ∉ as → s.heap.get? b = none
  newas : ∀ b, b ∈ as' → b ∉ as → s.heap.get? b = none

theorem Grow.refl (wr : Addr → Prop) (g : Im) (as : List Addr) (s : Shared) : Grow wr g as s g as s :=
  ⟨Sub.refl g, ⟨[], by simp⟩, fun _ _ _ _ e => e, fun _ o e => ⟨o, e⟩, fun b o e n _ => (by rw [e] at n; cases n), fun b h n => absurd h n⟩

theorem Grow.trans {wr : Addr → Prop} {g g' g'' : Im} {as as' as'' : List Addr} {s s' s'' : Shared} (x : Grow wr g as s g' as' s') (y : Grow wr g' as' s' g'' as'' s'') :
    Grow wr g as s g'' as'' s'' := by
  have none_back : ∀ b, s'.heap.get? b = none → s.heap.get? b = none := fun b e => by
    cases h : s.heap.get? b with
    | none => rfl
    | some o => obtain ⟨o', ho'⟩ := x.alive b o h; rw [e] at ho'; cases ho'
  refine ⟨x.sub.trans y.sub, ?_, fun b o hb hw e => ?_, fun b o e => ?_, fun b o e n hb => ?_, fun b hb n => ?_⟩
  · obtain ⟨l, rfl⟩ := x.pre
    obtain ⟨l', rfl⟩ := y.pre
    exact ⟨l ++ l', by simp⟩
  · have e1 := x.keep b o hb hw e
    refine y.keep b o (fun hb' => ?_) hw e1
    have := x.newas b hb' hb
    rw [e] at this; cases this
  · obtain ⟨o', e'⟩ := x.alive b o e
    exact y.alive b o' e'
  · cases h : g' b with
    | some o' => exact x.fresh b o' h n hb
    | none =>
      by_cases hb' : b ∈ as'
      · exact x.newas b hb' hb
      · exact none_back b (y.fresh b o e h hb')
  · by_cases hb' : b ∈ as'
    · exact x.newas b hb' n
    · exact none_back b (y.newas b hb hb')

theorem Grow.wider {wr wr' : Addr → Prop} {g g' : Im} {as as' : List Addr} {s s' : Shared} (x : Grow wr g as s g' as' s') (h : ∀ b, wr b → wr' b) : Grow wr' g as s g' as' s' :=
  ⟨x.sub, x.pre, fun b o hb hw e => x.keep b o hb (fun q => hw (h b q)) e, x.alive, x.fresh, x.newas⟩

theorem Grow.at_ {wr : Addr → Prop} {g g' : Im} {as as' : List Addr} {s s' : Shared} (x : Grow wr g as s g' as' s') {v : Value} {d : D} (h : At g as v d) : At g' as' v d := by
  obtain ⟨l, rfl⟩ := x.pre; exact h.mono x.sub
theorem Grow.ats {wr : Addr → Prop} {g g' : Im} {as as' : List Addr} {s s' : Shared} (x : Grow wr g as s g' as' s') {v : List Value} {d : List D} (h : Ats g as v d) : Ats g' as' v d := by
  obtain ⟨l, rfl⟩ := x.pre; exact h.mono x.sub

/-- the frame -/
structure Fm (env : Env) (g : Im) (as : List Addr) (Γ : List (Str × D)) (h : Heap) : Prop where
  kind : env.scope.kind = .function
  glob : env.globals = mainGlobals
  blt : env.builtins = builtinsNs
  ns : ∃ m, h.Ns env.locals m ∧ ∀ x d, Γ.lookup x = some d → env.kindOf x = some .local → ∃ v, m x = some v ∧ At g as v d
  lfree : g env.locals = none ∧ env.locals ∉ as
  cfree : ∀ x c, env.cells.lookup x = some c → g c = none ∧ c ∉ as ∧ c ≠ env.locals ∧ ∃ v, h.IsCell c v
  cell : ∀ x d, Γ.lookup x = some d → env.kindOf x = some .cell → ∃ c v, env.cells.lookup x = some c ∧ h.IsCell c (some v) ∧ At g as v d
  apart : ∀ x y c, env.cells.lookup x = some c → env.cells.lookup y = some c → x = y

theorem ns_some {h : Heap} {a : Addr} {m : Str → Option Value} (n : h.Ns a m) : ∃ o, h.get? a = some o := let ⟨o, _, _, e, _⟩ := n; ⟨o, e⟩
theorem ns_at {h h' : Heap} {a : Addr} {m : Str → Option Value} (n : h.Ns a m) (k : ∀ o, h.get? a = some o → h'.get? a = some o) : h'.Ns a m :=
  let ⟨o, es, ep, e, r⟩ := n; ⟨o, es, ep, k _ e, r⟩

theorem Fm.grow {env : Env} {g g' : Im} {as as' : List Addr} {Γ : List (Str × D)} {s s' : Shared} (F : Fm env g as Γ s.heap) (x : Grow (fun _ => False) g as s g' as' s') : Fm env g' as' Γ s'.heap := by
  obtain ⟨m, hn, hm⟩ := F.ns
  obtain ⟨oL, hoL⟩ := ns_some hn
  have nog : ∀ b o, s.heap.get? b = some o → g b = none → b ∉ as → g' b = none := fun b o e n hb => by
    cases h : g' b with
    | none => rfl
    | some o' => have := x.fresh b o' h n hb; rw [e] at this; cases this
  have noa : ∀ b o, s.heap.get? b = some o → b ∉ as → b ∉ as' := fun b o e hb h => by
    have := x.newas b h hb; rw [e] at this; cases this
  refine ⟨F.kind, F.glob, F.blt, ⟨m, ns_at hn fun o e => x.keep _ o F.lfree.2 id e, fun y d hy hk => ?_⟩, ⟨nog _ _ hoL F.lfree.1 F.lfree.2, noa _ _ hoL F.lfree.2⟩, fun y c hc => ?_, fun y d hy hk => ?_, F.apart⟩
  · obtain ⟨v, hv, ha⟩ := hm y d hy hk
    exact ⟨v, hv, x.at_ ha⟩
  · obtain ⟨h1, h2, h3, v, o, ho, hd⟩ := F.cfree y c hc
    exact ⟨nog _ _ ho h1 h2, noa _ _ ho h2, h3, v, o, x.keep _ o h2 id ho, hd⟩
  · obtain ⟨c, v, hc, ⟨o, ho, hd⟩, ha⟩ := F.cell y d hy hk
    exact ⟨c, v, hc, ⟨o, x.keep _ o (F.cfree y c hc).2.1 id ho, hd⟩, x.at_ ha⟩

theorem Fm.weaken {env : Env} {g : Im} {as : List Addr} {Γ Γ' : List (Str × D)} {h : Heap} (F : Fm env g as Γ h) (w : ∀ x d, Γ'.lookup x = some d → Γ.lookup x = some d) : Fm env g as Γ' h := by
  obtain ⟨m, hn, hm⟩ := F.ns
  exact ⟨F.kind, F.glob, F.blt, ⟨m, hn, fun x d hx => hm x d (w x d hx)⟩, F.lfree, F.cfree, fun x d hx => F.cell x d (w x d hx), F.apart⟩

def GoodE (e : Env) : Prop := e.scope.isGenerator = false ∧ e.scope.isCoroutine = false ∧ e.builtins = builtinsNs ∧ e.globals = mainGlobals
def Lv (n : Nat) (A : Around) : Prop := A.handled = none ∧ A.depth + 2 * n + 10 ≤ 700 ∧ A.units + 10 * n + 100 ≤ 9000 ∧ ∃ e l, A.frames = some (e :: l) ∧ GoodE e
theorem Lv.le {n k : Nat} {A : Around} (h : Lv n A) (hk : k ≤ n) : Lv k A := ⟨h.1, by have := h.2.1; omega, by have := h.2.2.1; omega, h.2.2.2⟩
theorem Lv.deeper {n : Nat} {A : Around} (h : Lv (n + 1) A) {env : Env} (he : GoodE env) : Lv n (A.deeper env) :=
  ⟨h.1, by have := h.2.1; simp only [Around.deeper]; omega, by have := h.2.2.1; simp only [Around.deeper]; omega, by
    obtain ⟨e, l, hf, _⟩ := h.2.2.2
    exact ⟨env, e :: l, by simp only [Around.deeper, hf]; rfl, he⟩⟩
theorem Lv.room {n : Nat} {A : Around} (h : Lv n A) : A.depth < recursionLimit := by have := h.2.1; unfold recursionLimit; omega

def Post (C : Cx) (wr : Addr → Prop) (g : Im) (as : List Addr) (s : Shared) (tr' : List MObj) (d : D) (v : Value) (s' : Shared) : Prop :=
  ∃ g' as', Grow wr g as s g' as' s' ∧ W C g' as' tr' s' ∧ At g' as' v d

abbrev noE : Value → Shared → Prop := fun _ _ => False
abbrev noW : Addr → Prop := fun _ => False

/-- an expression is evaluated: its data, the mutable part behind it -/
def Ev (C : Cx) (n : Nat) (env : Env) (Γ : List (Str × D)) (tr : List MObj) (e : Expr) (tr' : List MObj) (d : D) : Prop :=
  ∀ A g as s, Lv n A → W C g as tr s → Fm env g as Γ s.heap → wpAny (model C.prog C.w) A (eval e env) (Post C noW g as s tr' d) noE s

def Evs (C : Cx) (n : Nat) (env : Env) (Γ : List (Str × D)) (tr : List MObj) (pos : Pos) (es : List Expr) (tr' : List MObj) (ds : List D) : Prop :=
  ∀ A g as s, Lv n A → W C g as tr s → Fm env g as Γ s.heap → wpAny (model C.prog C.w) A (spliced (backTo pos (starEach es env)))
    (fun vs s' => ∃ g' as', Grow noW g as s g' as' s' ∧ W C g' as' tr' s' ∧ Ats g' as' vs ds) noE s

/-- a test -/
def Tt (C : Cx) (n : Nat) (env : Env) (Γ : List (Str × D)) (tr : List MObj) (e : Expr) (tr' : List MObj) (b : Bool) : Prop :=
  ∀ A g as s, Lv n A → W C g as tr s → Fm env g as Γ s.heap → wpAny (model C.prog C.w) A (isTrue e env (eval e env))
    (fun r s' => r = b ∧ ∃ g' as', Grow noW g as s g' as' s' ∧ W C g' as' tr' s') noE s

def wrOf (env : Env) : Addr → Prop := fun b => b = env.locals ∨ ∃ x, env.cells.lookup x = some b

inductive Out where
  | next (Γ : List (Str × D)) (tr : List MObj)
  | ret (tr : List MObj) (d : D)

def OutP (C : Cx) (env : Env) (g : Im) (as : List Addr) (s : Shared) (o : Out) (f : Flow) (s' : Shared) : Prop :=
  ∃ g' as', Grow (wrOf env) g as s g' as' s' ∧ match o, f with
    | .next Γ tr, .next => W C g' as' tr s' ∧ Fm env g' as' Γ s'.heap
    | .ret tr d, .ret v => W C g' as' tr s' ∧ At g' as' v d
    | _, _ => False

def Ex1 (C : Cx) (n : Nat) (env : Env) (Γ : List (Str × D)) (tr : List MObj) (st : Stmt) (o : Out) : Prop :=
  ∀ A g as s, Lv n A → W C g as tr s → Fm env g as Γ s.heap → wpAny (model C.prog C.w) A (exec st env) (OutP C env g as s o) noE s
def Ex (C : Cx) (n : Nat) (env : Env) (Γ : List (Str × D)) (tr : List MObj) (ss : List Stmt) (o : Out) : Prop :=
  ∀ A g as s, Lv n A → W C g as tr s → Fm env g as Γ s.heap → wpAny (model C.prog C.w) A (execs ss env) (OutP C env g as s o) noE s

/-- a call of a value upon data -/
def Fn (C : Cx) (n : Nat) (f : Value) (tr : List MObj) (ds : List D) (tr' : List MObj) (d : D) : Prop :=
  ∀ A g as s vs, Lv n A → W C g as tr s → Ats g as vs ds → wpAny (model C.prog C.w) A (call f vs) (Post C noW g as s tr' d) noE s

theorem OutP.step {C : Cx} {env : Env} {g g1 : Im} {as as1 : List Addr} {s s1 s2 : Shared} {o : Out} {f : Flow} (x : Grow (wrOf env) g as s g1 as1 s1) (h : OutP C env g1 as1 s1 o f s2) : OutP C env g as s o f s2 := by
  obtain ⟨g', as', G, r⟩ := h
  exact ⟨g', as', x.trans G, r⟩

theorem Grow.noW {wr : Addr → Prop} {g g' : Im} {as as' : List Addr} {s s' : Shared} (x : Grow noW g as s g' as' s') : Grow wr g as s g' as' s' := x.wider fun _ h => h.elim

section rules
variable {C : Cx} {n : Nat} {env : Env} {Γ : List (Str × D)} {tr tr1 tr2 tr3 : List MObj}

theorem Ev.mono {e : Expr} {d : D} {k : Nat} (h : Ev C k env Γ tr e tr1 d) (hk : k ≤ n) : Ev C n env Γ tr e tr1 d := fun A g as s L w F => h A g as s (L.le hk) w F
theorem Fn.mono {f : Value} {ds : List D} {d : D} {k : Nat} (h : Fn C k f tr ds tr1 d) (hk : k ≤ n) : Fn C n f tr ds tr1 d := fun A g as s vs L w F => h A g as s vs (L.le hk) w F

theorem Ex_nil : Ex C n env Γ tr [] (.next Γ tr) := fun A g as s _ w F => wpAny_execs_nil ⟨g, as, Grow.refl _ _ _ _, w, F⟩

theorem Ex_cons {st : Stmt} {rest : List Stmt} {Γ1 : List (Str × D)} {o : Out} (h1 : Ex1 C n env Γ tr st (.next Γ1 tr1)) (h2 : Ex C n env Γ1 tr1 rest o) : Ex C n env Γ tr (st :: rest) o :=
  fun A g as s L w F => wpAny_execs_cons (wpAny_mono (h1 A g as s L w F) (fun f s1 h => by
    obtain ⟨g1, as1, G, r⟩ := h
    cases f <;> first | exact r.elim | exact wpAny_mono (h2 A g1 as1 s1 L r.1 r.2) (fun f s2 h => h.step G) fun _ _ h => h) fun _ _ h => h)

theorem Ex_ret {st : Stmt} {rest : List Stmt} {d : D} (h1 : Ex1 C n env Γ tr st (.ret tr1 d)) : Ex C n env Γ tr (st :: rest) (.ret tr1 d) :=
  fun A g as s L w F => wpAny_execs_cons (wpAny_mono (h1 A g as s L w F) (fun f s1 h => by
    obtain ⟨g1, as1, G, r⟩ := h
    cases f <;> first | exact r.elim | exact ⟨g1, as1, G, r⟩) fun _ _ h => h)

theorem Ex_weaken {ss : List Stmt} {Γ1 Γ2 : List (Str × D)} (h : Ex C n env Γ tr ss (.next Γ1 tr1)) (w : ∀ x d, Γ2.lookup x = some d → Γ1.lookup x = some d) : Ex C n env Γ tr ss (.next Γ2 tr1) :=
  fun A g as s L ww F => wpAny_mono (h A g as s L ww F) (fun f s1 h => by
    obtain ⟨g1, as1, G, r⟩ := h
    cases f <;> first | exact r.elim | exact ⟨g1, as1, G, r.1, r.2.weaken w⟩) fun _ _ h => h

theorem Ex_pre {ss : List Stmt} {Γ1 : List (Str × D)} {o : Out} (h : Ex C n env Γ1 tr ss o) (w : ∀ x d, Γ1.lookup x = some d → Γ.lookup x = some d) : Ex C n env Γ tr ss o :=
  fun A g as s L ww F => h A g as s L ww (F.weaken w)

theorem Ev_pre {e : Expr} {Γ1 : List (Str × D)} {d : D} (h : Ev C n env Γ1 tr e tr1 d) (w : ∀ x d, Γ1.lookup x = some d → Γ.lookup x = some d) : Ev C n env Γ tr e tr1 d :=
  fun A g as s L ww F => h A g as s L ww (F.weaken w)

theorem Ex1_if {test : Expr} {body orelse : List Stmt} {pos : Pos} {b : Bool} {o : Out} (ht : Tt C n env Γ tr test tr1 b) (h : Ex C n env Γ tr1 (if b then body else orelse) o) :
    Ex1 C n env Γ tr (.If test body orelse pos) o :=
  fun A g as s L w F => wpAny_If (wpAny_mono (ht A g as s L w F) (fun r s1 h1 => by
    obtain ⟨rfl, g1, as1, G, w1⟩ := h1
    cases r <;> exact wpAny_mono (h A g1 as1 s1 L w1 (F.grow G)) (fun f s2 h => h.step G.noW) fun _ _ h => h) fun _ _ h => h)

theorem Ex1_return {e : Expr} {pos : Pos} {d : D} (h : Ev C n env Γ tr e tr1 d) : Ex1 C n env Γ tr (.Return (some e) pos) (.ret tr1 d) :=
  fun A g as s L w F => wpAny_Return_some (wpAny_mono (h A g as s L w F) (fun v s1 h1 => by
    obtain ⟨g1, as1, G, w1, a⟩ := h1
    exact ⟨g1, as1, G.noW, w1, a⟩) fun _ _ h => h)

end rules


def upd (g : Im) (a : Addr) (o : Obj) : Im := fun b => if b = a then some o else g b
theorem upd_self (g : Im) (a : Addr) (o : Obj) : upd g a o a = some o := by simp [upd]
theorem upd_sub {g : Im} {a : Addr} {o : Obj} (n : g a = none) : Sub g (upd g a o) := fun b o' e => by
  unfold upd
  split
  · rename_i h; subst h; rw [n] at e; cases e
  · exact e

section
variable {C : Cx} {g : Im} {as : List Addr} {tr : List MObj} {s s' : Shared}

theorem W.notin (w : W C g as tr s) {b : Addr} (e : s.heap.get? b = none) : b ∉ as := fun h => by
  obtain ⟨n, hn⟩ := List.mem_iff_getElem?.mp h
  have hlt := (List.getElem?_eq_some_iff.mp hn).1
  rw [w.len] at hlt
  have hm := w.mob n b _ hn (List.getElem?_eq_getElem hlt)
  cases hc : tr[n] with
  | lst ds => rw [hc] at hm; obtain ⟨_, vs, n, h1, _⟩ := hm; rw [e] at h1; cases h1
  | dct fs => rw [hc] at hm; obtain ⟨_, vs, n, h1, _⟩ := hm; rw [e] at h1; cases h1
  | dead => rw [hc] at hm; simp [MAt, e] at hm
theorem W.gnone (w : W C g as tr s) {b : Addr} (e : s.heap.get? b = none) : g b = none := by
  cases h : g b with
  | none => rfl
  | some o => have := w.sub b o h; rw [e] at this; cases this

theorem MAt.kept {g g' : Im} {as l : List Addr} {h h' : Heap} {a : Addr} {m : MObj} (x : MAt g as h a m) (S : Sub g g') (k : ∀ o, h.get? a = some o → h'.get? a = some o) (n : g a = none → g' a = none) : MAt g' (as ++ l) h' a m := by
  cases m with
  | lst ds => obtain ⟨gn, vs, q, e, r⟩ := x; exact ⟨n gn, vs, q, k _ e, r.mono S⟩
  | dct fs => obtain ⟨gn, vs, q, e, r⟩ := x; exact ⟨n gn, vs, q, k _ e, r.mono S⟩
  | dead =>
    obtain ⟨o, ho⟩ := Option.isSome_iff_exists.mp (show (h.get? a).isSome = true from x)
    show (h'.get? a).isSome = true
    rw [k o ho]; rfl

/-- the heap has grown (garbage, tokens): nothing of ours is touched -/
theorem W.kept (w : W C g as tr s) (k : ∀ b o, s.heap.get? b = some o → s'.heap.get? b = some o) (ho : s'.os = s.os) (hg : s'.gens = s.gens) : W C g as tr s' ∧ Grow noW g as s g as s' := by
  refine ⟨⟨w.ok, w.base, fun b o e => k b o (w.sub b o e), ho.trans w.os, hg.trans w.gens, w.nod, w.len, fun n a m ha hm => ?_⟩, Sub.refl g, ⟨[], by simp⟩, fun b o _ _ e => k b o e, fun b o e => ⟨o, k b o e⟩, fun b o e n _ => (by rw [e] at n; cases n), fun b h n => absurd h n⟩
  have := (w.mob n a m ha hm).kept (l := []) (Sub.refl g) (fun o e => k a o e) id
  simpa using this

/-- a new immutable object -/
theorem W.add (w : W C g as tr s) {a : Addr} {o : Obj} (k : ∀ b o, s.heap.get? b = some o → s'.heap.get? b = some o) (new : s.heap.get? a = none) (at_ : s'.heap.get? a = some o) (ho : s'.os = s.os) (hg : s'.gens = s.gens) :
    W C (upd g a o) as tr s' ∧ Grow noW g as s (upd g a o) as s' := by
  have S := upd_sub (o := o) (w.gnone new)
  have ha := w.notin new
  refine ⟨⟨w.ok, fun b o' e => S b o' (w.base b o' e), fun b o' e => ?_, ho.trans w.os, hg.trans w.gens, w.nod, w.len, fun n b m hb hm => ?_⟩, S, ⟨[], by simp⟩, fun b o _ _ e => k b o e, fun b o e => ⟨o, k b o e⟩, fun b o' e n _ => ?_, fun b h n => absurd h n⟩
  · unfold upd at e
    split at e
    · rename_i h; subst h; cases e; exact at_
    · exact k b o' (w.sub b o' e)
  · have := (w.mob n b m hb hm).kept (l := []) S (fun o e => k b o e) (fun q => by
      unfold upd
      rw [if_neg (fun (h : b = a) => ha (by subst h; exact List.mem_of_getElem? hb))]
      exact q)
    simpa using this
  · unfold upd at e
    split at e
    · rename_i h; subst h; exact new
    · rw [e] at n; cases n

/-- a new mutable location -/
theorem W.loc (w : W C g as tr s) {a : Addr} {m : MObj} (k : ∀ b o, s.heap.get? b = some o → s'.heap.get? b = some o) (new : s.heap.get? a = none) (at_ : MAt g (as ++ [a]) s'.heap a m) (ho : s'.os = s.os) (hg : s'.gens = s.gens) :
    W C g (as ++ [a]) (tr ++ [m]) s' ∧ Grow noW g as s g (as ++ [a]) s' := by
  have ha := w.notin new
  refine ⟨⟨w.ok, w.base, fun b o' e => k b o' (w.sub b o' e), ho.trans w.os, hg.trans w.gens, ?_, by simp [w.len], fun n b m' hb hm => ?_⟩, Sub.refl g, ⟨[a], rfl⟩, fun b o _ _ e => k b o e, fun b o e => ⟨o, k b o e⟩, fun b o' e n _ => (by rw [e] at n; cases n), fun b h n => ?_⟩
  · rw [List.nodup_append]
    exact ⟨w.nod, by simp, fun x hx y hy => by simp at hy; subst hy; rintro rfl; exact ha hx⟩
  · by_cases hlt : n < as.length
    · rw [List.getElem?_append_left hlt] at hb
      rw [List.getElem?_append_left (by rw [← w.len]; exact hlt)] at hm
      exact (w.mob n b m' hb hm).kept (l := [a]) (Sub.refl g) (fun o e => k b o e) id
    · rw [List.getElem?_append_right (by omega)] at hb
      rw [List.getElem?_append_right (by rw [← w.len]; omega), ← w.len] at hm
      cases hn : n - as.length with
      | zero => rw [hn] at hb hm; simp at hb hm; subst hb hm; exact at_
      | succ j => rw [hn] at hb; simp at hb
  · rcases List.mem_append.mp h with h | h
    · exact absurd h n
    · rw [List.mem_singleton.mp h]; exact new

/-- a mutable location is turned -/
theorem W.turn (w : W C g as tr s) {a : Addr} {n : Nat} {m : MObj} (hn : as[n]? = some a) (k : ∀ b, b ≠ a → s'.heap.get? b = s.heap.get? b) (live : g a = none) (at_ : MAt g as s'.heap a m) (ho : s'.os = s.os) (hg : s'.gens = s.gens) :
    W C g as (tr.set n m) s' ∧ Grow noW g as s g as s' := by
  have hlt := (List.getElem?_eq_some_iff.mp hn).1
  refine ⟨⟨w.ok, w.base, fun b o' e => ?_, ho.trans w.os, hg.trans w.gens, w.nod, by simp [w.len], fun i b m' hb hm => ?_⟩, Sub.refl g, ⟨[], by simp⟩, fun b o hb _ e => ?_, fun b o e => ?_, fun b o' e n _ => (by rw [e] at n; cases n), fun b h n => absurd h n⟩
  · rw [k b (fun h => by subst h; rw [live] at e; cases e)]; exact w.sub b o' e
  · by_cases hi : n = i
    · subst hi
      rw [hn] at hb; cases hb
      rw [List.getElem?_set_self (by rw [← w.len]; exact hlt)] at hm
      cases hm; exact at_
    · rw [List.getElem?_set_ne hi] at hm
      have hne : b ≠ a := fun h => by
        subst h
        exact hi ((List.getElem?_inj hlt w.nod).mp (hn.trans hb.symm))
      have := (w.mob i b m' hb hm).kept (l := []) (Sub.refl g) (fun o e => by rw [k b hne]; exact e) id
      simpa using this
  · rw [k b (fun (h : b = a) => hb (by rw [h]; exact List.mem_of_getElem? hn))]; exact e
  · by_cases hb : b = a
    · subst hb
      cases m with
      | lst ds => obtain ⟨_, vs, q, e', r⟩ := at_; exact ⟨_, e'⟩
      | dct ds => obtain ⟨_, vs, q, e', r⟩ := at_; exact ⟨_, e'⟩
      | dead => exact Option.isSome_iff_exists.mp at_
    · exact ⟨o, by rw [k b hb]; exact e⟩

theorem W.lstAt (w : W C g as tr s) {n : Nat} {a : Addr} {ds : List D} (hn : as[n]? = some a) (hm : tr[n]? = some (.lst ds)) : g a = none ∧ ∃ vs q, s.heap.get? a = some (lstObj vs q) ∧ Ats g as vs ds := w.mob n a _ hn hm
theorem W.dctAt (w : W C g as tr s) {n : Nat} {a : Addr} {fs : List (Str × D)} (hn : as[n]? = some a) (hm : tr[n]? = some (.dct fs)) : g a = none ∧ ∃ es q, s.heap.get? a = some (dictOf es q) ∧ Flds g as es fs := w.mob n a _ hn hm

theorem W.post (w : W C g as tr s) {d : D} {v : Value} (a : At g as v d) : Post C noW g as s tr d v s := ⟨g, as, Grow.refl _ _ _ _, w, a⟩
theorem Post.step {g1 : Im} {as1 : List Addr} {s1 : Shared} {tr' : List MObj} {d : D} {v : Value} (x : Grow noW g as s g1 as1 s1) (h : Post C noW g1 as1 s1 tr' d v s') : Post C noW g as s tr' d v s' := by
  obtain ⟨g', as', G, r⟩ := h; exact ⟨g', as', x.trans G, r⟩
theorem W.toks (w : W C g as tr s) (t : Nat) : W C g as tr { s with toks := t } ∧ Grow noW g as s g as { s with toks := t } := w.kept (s' := { s with toks := t }) (fun _ _ e => e) rfl rfl
theorem W.postT (w : W C g as tr s) {d : D} {v : Value} (t : Nat) (a : At g as v d) : Post C noW g as s tr d v { s with toks := t } := ⟨g, as, (w.toks t).2, (w.toks t).1, a⟩
end

section
variable {C : Cx} {n : Nat} {env : Env} {Γ : List (Str × D)} {tr tr1 tr2 tr3 : List MObj}

/-! names, constants -/
theorem Ev_local {x : Str} {pos : Pos} {d : D} (hl : Γ.lookup x = some d) (hk : env.kindOf x = some .local) (hd : (x == ("__debug__" : Str)) = false) : Ev C n env Γ tr (.Name x pos) tr d :=
  fun A g as s L w F => by
    obtain ⟨m, hn, hm⟩ := F.ns
    obtain ⟨v, hv, ha⟩ := hm x d hl hk
    exact wpAny_Name (wpAny_loadName_local F.kind hk hn hv (w.post ha)) hd
theorem Ev_cell {x : Str} {pos : Pos} {d : D} (hl : Γ.lookup x = some d) (hk : env.kindOf x = some .cell) (hd : (x == ("__debug__" : Str)) = false) : Ev C n env Γ tr (.Name x pos) tr d :=
  fun A g as s L w F => by
    obtain ⟨c, v, hc, hv, ha⟩ := F.cell x d hl hk
    exact wpAny_Name (wpAny_loadName_cell F.kind hk hc hv (w.post ha)) hd
theorem W.kept0 {g : Im} {as : List Addr} {s : Shared} (w : W C g as tr s) : ∀ b o, C.H0.get? b = some o → s.heap.get? b = some o := fun b o e => w.sub b o (w.base b o e)
theorem Ev_global {x : Str} {pos : Pos} {v : Value} (hv : C.mg x = some v) (hk : env.kindOf x = some .globalImplicit) (hd : (x == ("__debug__" : Str)) = false) : Ev C n env Γ tr (.Name x pos) tr (.raw v) :=
  fun A g as s L w F => Name_function_global F.kind hk (loadGlobal_global (F.glob ▸ w.ok.g.keeps w.kept0) hv (w.post (.raw v))) hd
/-- a global that holds data -/
theorem Ev_globalD {x : Str} {pos : Pos} {v : Value} {d : D} (hv : C.mg x = some v) (hk : env.kindOf x = some .globalImplicit) (hd : (x == ("__debug__" : Str)) = false)
    (ha : ∀ g as, (∀ b o, C.H0.get? b = some o → g b = some o) → At g as v d) : Ev C n env Γ tr (.Name x pos) tr d :=
  fun A g as s L w F => Name_function_global F.kind hk (loadGlobal_global (F.glob ▸ w.ok.g.keeps w.kept0) hv (w.post (ha g as w.base))) hd
theorem Ev_builtin {x : Str} {pos : Pos} {v : Value} (hm : C.mg x = none) (hv : C.mb x = some v) (hk : env.kindOf x = some .globalImplicit) (hd : (x == ("__debug__" : Str)) = false) : Ev C n env Γ tr (.Name x pos) tr (.raw v) :=
  fun A g as s L w F => Name_function_global F.kind hk (loadGlobal_builtin (F.glob ▸ w.ok.g.keeps w.kept0) hm (F.blt ▸ w.ok.b.keeps w.kept0) hv (w.post (.raw v))) hd
theorem Ev_int {i : Int} {k pos} : Ev C n env Γ tr (.Constant (.int i) k pos) tr (.int i) := fun A g as s L w F => wpAny_Constant_int (w.postT _ (.int _ _))
theorem Ev_none {k pos} : Ev C n env Γ tr (.Constant .none k pos) tr .none := fun A g as s L w F => wpAny_Constant_none (w.post .none)
theorem Ev_bool {b k pos} : Ev C n env Γ tr (.Constant (.bool b) k pos) tr (.bool b) := fun A g as s L w F => wpAny_Constant_bool (w.post (.bool b))
theorem Ev_str {x k pos} : Ev C n env Γ tr (.Constant (.str x) k pos) tr (.str x) := fun A g as s L w F => wpAny_Constant_str (w.postT _ (.str x _))

/-! argument lists -/
theorem Evs_nil {pos : Pos} : Evs C n env Γ tr pos [] tr [] := fun A g as s L w F => spliced_nil ⟨g, as, Grow.refl _ _ _ _, w, .nil⟩
theorem Evs_cons {pos : Pos} {e : Expr} {es : List Expr} {d : D} {ds : List D} (h : Ev C n env Γ tr e tr1 d) (r : Evs C n env Γ tr1 pos es tr2 ds)
    (he : starEach (e :: es) env = (false, eval e env) :: starEach es env) : Evs C n env Γ tr pos (e :: es) tr2 (d :: ds) :=
  fun A g as s L w F => by
    rw [he]
    show wpAny _ _ (spliced ((false, eval e env) :: backTo pos (starEach es env))) _ _ _
    exact spliced_cons (wpAny_mono (h A g as s L w F) (fun v s1 h1 => by
      obtain ⟨g1, as1, G1, w1, a1⟩ := h1
      refine wpAny_mono (r A g1 as1 s1 L w1 (F.grow G1)) (fun vs s2 h2 => ?_) fun _ _ h => h
      obtain ⟨g2, as2, G2, w2, a2⟩ := h2
      exact ⟨g2, as2, G1.trans G2, w2, .cons (G2.at_ a1) a2⟩) fun _ _ h => h)

/-! displays -/
theorem W.push {g : Im} {as : List Addr} {s : Shared} (w : W C g as tr s) {o : Obj} (hf : o.isFreed = false) :
    W C (upd g s.heap.objs.size o) as tr { s with heap := s.heap.push o } ∧ Grow noW g as s (upd g s.heap.objs.size o) as { s with heap := s.heap.push o } :=
  w.add (s' := { s with heap := s.heap.push o }) (fun b o' e => Heap.get?_push_of_some _ e) (Heap.get?_none_of_le (Nat.le_refl _)) (Heap.get?_push_size _ hf) rfl rfl

theorem Ev_tuple {elts : List Expr} {k : Nat} {pos : Pos} {ds : List D} (h : Evs C n env Γ tr pos elts tr1 ds) (hz : ds.length ≤ 1000) : Ev C n env Γ tr (.Tuple elts k pos) tr1 (.tup ds) :=
  fun A g as s L w F => Tuple_ (wpAny_mono (h A g as s L w F) (fun vs s1 h1 => by
    obtain ⟨g1, as1, G1, w1, a1⟩ := h1
    refine wpAny_newObj_type ?_ (by show vs.toArray.size ≤ sizeLine; rw [List.size_toArray, a1.length, sizeLine_eq]; omega)
    obtain ⟨w2, G2⟩ := w1.push (o := tupObj vs 0) rfl
    exact ⟨_, _, G1.trans G2, w2, .tup (upd_self _ _ _) (G2.ats a1)⟩) fun _ _ h => h)
theorem Ev_list {elts : List Expr} {pos : Pos} {ds : List D} (h : Evs C n env Γ tr pos elts tr1 ds) (hz : ds.length ≤ 1000) : Ev C n env Γ tr (.List elts pos) tr1 (.lst ds) :=
  fun A g as s L w F => List_ (wpAny_mono (h A g as s L w F) (fun vs s1 h1 => by
    obtain ⟨g1, as1, G1, w1, a1⟩ := h1
    refine wpAny_newObj_type ?_ (by show vs.toArray.size ≤ sizeLine; rw [List.size_toArray, a1.length, sizeLine_eq]; omega)
    obtain ⟨w2, G2⟩ := w1.push (o := lstObj vs 0) rfl
    exact ⟨_, _, G1.trans G2, w2, .lst (upd_self _ _ _) (G2.ats a1)⟩) fun _ _ h => h)
/-- a display as a mutable location -/
theorem Ev_listM {elts : List Expr} {pos : Pos} {ds : List D} (h : Evs C n env Γ tr pos elts tr1 ds) (hz : ds.length ≤ 1000) : Ev C n env Γ tr (.List elts pos) (tr1 ++ [.lst ds]) (.ptr tr1.length) :=
  fun A g as s L w F => List_ (wpAny_mono (h A g as s L w F) (fun vs s1 h1 => by
    obtain ⟨g1, as1, G1, w1, a1⟩ := h1
    refine wpAny_newObj_type ?_ (by show vs.toArray.size ≤ sizeLine; rw [List.size_toArray, a1.length, sizeLine_eq]; omega)
    have new : s1.heap.get? s1.heap.objs.size = none := Heap.get?_none_of_le (Nat.le_refl _)
    obtain ⟨w2, G2⟩ := w1.loc (s' := { s1 with heap := s1.heap.push (lstObj vs 0) }) (a := s1.heap.objs.size) (m := .lst ds) (fun b o' e => Heap.get?_push_of_some _ e) new
      ⟨w1.gnone new, vs, 0, Heap.get?_push_size _ rfl, a1.mono (Sub.refl _)⟩ rfl rfl
    exact ⟨_, _, G1.trans G2, w2, .ptr (by rw [← w1.len]; simp)⟩) fun _ _ h => h)
end

section
variable {C : Cx} {n : Nat} {env : Env} {Γ : List (Str × D)} {tr tr1 tr2 tr3 : List MObj}

/-! operations on values -/
def Op2 (C : Cx) (n : Nat) (tr : List MObj) (op : Value → Value → Sem Value) (d1 d2 d : D) : Prop :=
  ∀ A g as s v1 v2, Lv n A → W C g as tr s → At g as v1 d1 → At g as v2 d2 → wpAny (model C.prog C.w) A (op v1 v2) (Post C noW g as s tr d) noE s

theorem Ev_bin {l r : Expr} {op : Operator} {pos : Pos} {d1 d2 d : D} (h1 : Ev C n env Γ tr l tr1 d1) (h2 : Ev C n env Γ tr1 r tr2 d2) (h : Op2 C n tr2 (binaryOp op) d1 d2 d) :
    Ev C n env Γ tr (.BinOp l op r pos) tr2 d :=
  fun A g as s L w F => wpAny_BinOp (wpAny_mono (h1 A g as s L w F) (fun v1 s1 p1 => by
    obtain ⟨g1, as1, G1, w1, a1⟩ := p1
    refine wpAny_mono (h2 A g1 as1 s1 L w1 (F.grow G1)) (fun v2 s2 p2 => ?_) fun _ _ h => h
    obtain ⟨g2, as2, G2, w2, a2⟩ := p2
    exact wpAny_mono (h A g2 as2 s2 v1 v2 L w2 (G2.at_ a1) a2) (fun v s3 p3 => Post.step (G1.trans G2) p3) fun _ _ h => h) fun _ _ h => h)

theorem Op_add {i j : Int} : Op2 C n tr (binaryOp .Add) (.int i) (.int j) (.int (i + j)) := fun A g as s v1 v2 L w a1 a2 => by
  cases a1; cases a2; exact add_int (w.postT _ (.int _ _))
theorem Op_sub {i j : Int} : Op2 C n tr (binaryOp .Sub) (.int i) (.int j) (.int (i - j)) := fun A g as s v1 v2 L w a1 a2 => by
  cases a1; cases a2; exact sub_int (w.postT _ (.int _ _))
theorem Op_mul {i j : Int} (hm : IntMulOk i j) : Op2 C n tr (binaryOp .Mult) (.int i) (.int j) (.int (i * j)) := fun A g as s v1 v2 L w a1 a2 => by
  cases a1; cases a2; exact mul_int (w.postT _ (.int _ _)) hm
theorem Op_mod {i j : Int} (hj : j ≠ 0) : Op2 C n tr (binaryOp .Mod) (.int i) (.int j) (.int (i.fmod j)) := fun A g as s v1 v2 L w a1 a2 => by
  cases a1; cases a2; exact mod_int' hj (w.postT _ (.int _ _))
theorem Op_fdiv {i j : Int} (hj : j ≠ 0) : Op2 C n tr (binaryOp .FloorDiv) (.int i) (.int j) (.int (i.fdiv j)) := fun A g as s v1 v2 L w a1 a2 => by
  cases a1; cases a2
  obtain ⟨e, l, hf, g1, g2, g3, g4⟩ := L.2.2.2
  exact floordiv_int hj (w.postT _ (.int _ _)) (.inr (PylongRoom.of (w.ok.lim.keeps w.kept0) (by have := L.2.1; unfold Builtin.pylongFrames recursionLimit; omega)
    (SeerAt.of (w.ok.seer.keeps w.kept0) w.ok.tree hf g1 g2 g3 g4)))

/-- [..] * k -/
theorem Op_mulList {ds : List D} {k : Int} (h0 : 0 ≤ k) (hz : ds.length * k.toNat ≤ 1000) (hk : k ≤ 1000) : Op2 C n tr (binaryOp .Mult) (.lst ds) (.int k) (.lst (List.replicate k.toNat ds).flatten) :=
  fun A g as s v1 v2 L w a1 a2 => by
    cases a2 with
    | int _ u =>
    cases a1 with
    | @lst a vs q ds ha hvs =>
    have hl := w.sub _ _ ha
    have hlen : vs.toArray.size * k.toNat ≤ 2 ^ 24 := by rw [List.size_toArray, hvs.length]; exact Nat.le_trans hz (by decide)
    refine wpAny_binaryOp_repeat_ref (T := "list") (U := "int") (by decide) ⟨_, hl, rfl⟩ (fun s' => typeIs_int s' k u) noFill_list_mul F.fills_int_mul F.slot_int_rmul repeat_list F.slot_int_index.lookup
      (call_meets F.slot_int_rmul (typeIs_int s k u) F.entry_int_rmul (F.args_int_rmul_2 _ _) (int___rmul___int_list k u a vs.toArray q)
        ⟨hl, rfl, ⟨_, hl, rfl⟩, call_meets F.slot_list_mul ⟨_, hl, rfl⟩ F.entry_list_mul (F.args_list_mul_2 _ _)
          (AutoListH.list___mul___list_int_3 a vs.toArray q k u (by simp [Builtin.List.listFitsIndex]; omega) (by omega) (by simp [Builtin.List.listTooLong, sizeLine]; simp at hlen; omega))
          ⟨hl, ?_⟩⟩)
    have key : ∀ j : Nat, (List.foldl (fun x1 x2 => x1 ++ x2) #[] (List.replicate j vs.toArray)) = ((List.replicate j vs).flatten).toArray := by
      have gen : ∀ (j : Nat) (acc : Array Value), (List.foldl (fun x1 x2 => x1 ++ x2) acc (List.replicate j vs.toArray)) = acc ++ ((List.replicate j vs).flatten).toArray := by
        intro j
        induction j with
        | zero => intro acc; simp
        | succ j ih => intro acc; simp only [List.replicate_succ, List.foldl_cons, ih, List.flatten_cons]; apply Array.ext'; simp
      intro j; rw [gen]; simp
    have ats : ∀ j : Nat, Ats g as (List.replicate j vs).flatten (List.replicate j ds).flatten := by
      intro j
      induction j with
      | zero => exact .nil
      | succ j ih => simp only [List.replicate_succ, List.flatten_cons]; exact hvs.append ih
    have eq1 : (List.foldl (fun x1 x2 => x1 ++ x2) #[] (List.replicate (if vs.toArray.isEmpty = true then 0 else k.toNat) vs.toArray)) = ((List.replicate k.toNat vs).flatten).toArray := by
      rw [key]
      split
      · rename_i he
        have : vs = [] := by simpa using he
        subst this; simp
      · rfl
    rw [eq1]
    obtain ⟨w2, G2⟩ := w.push (o := lstObj (List.replicate k.toNat vs).flatten 0) rfl
    exact ⟨_, _, G2, w2, .lst (upd_self _ _ _) (G2.ats (ats _))⟩

theorem Ev_neg {x : Expr} {pos : Pos} {i : Int} (h : Ev C n env Γ tr x tr1 (.int i)) : Ev C n env Γ tr (.UnaryOp .USub x pos) tr1 (.int (-i)) :=
  fun A g as s L w F => by
    show wpAny _ A (eval x env >>= fun v => standAt pos >>= fun _ => holding [v] (unaryOp .USub v)) _ _ s
    refine wpAny_bind (wpAny_mono (h A g as s L w F) (fun v s1 p1 => ?_) fun _ _ h => h)
    obtain ⟨g1, as1, G1, w1, a1⟩ := p1
    cases a1
    exact wpAny_bind (wpAny_standAt (wpAny_holding (PyProof.Rows.neg_int (Post.step G1 (w1.postT _ (.int _ _))))))

/-! comparisons -/
def Cmp (C : Cx) (n : Nat) (tr : List MObj) (op : CmpOp) (d1 d2 : D) (b : Bool) : Prop := Op2 C n tr (compareOp op) d1 d2 (.bool b)

theorem Cmp_lt {i j : Int} : Cmp C n tr .Lt (.int i) (.int j) (decide (i < j)) := fun A g as s v1 v2 L w a1 a2 => by
  cases a1; cases a2; exact lt_int (w.post (.bool _))
theorem Cmp_gt {i j : Int} : Cmp C n tr .Gt (.int i) (.int j) (decide (j < i)) := fun A g as s v1 v2 L w a1 a2 => by
  cases a1; cases a2; exact gt_int (w.post (.bool _))
theorem Cmp_ge {i j : Int} : Cmp C n tr .GtE (.int i) (.int j) (decide (j ≤ i)) := fun A g as s v1 v2 L w a1 a2 => by
  cases a1; cases a2; exact ge_int (w.post (.bool _))
theorem Cmp_eq {i j : Int} : Cmp C n tr .Eq (.int i) (.int j) (i == j) := fun A g as s v1 v2 L w a1 a2 => by
  cases a1; cases a2; exact PyProof.Rows.eq_int (w.post (.bool _))
theorem Cmp_ne {i j : Int} : Cmp C n tr .NotEq (.int i) (.int j) (i != j) := fun A g as s v1 v2 L w a1 a2 => by
  cases a1; cases a2; exact PyProof.Rows.ne_int (w.post (.bool _))
theorem Cmp_eqb {i j : Bool} : Cmp C n tr .Eq (.bool i) (.bool j) (i == j) := fun A g as s v1 v2 L w a1 a2 => by
  cases a1; cases a2; exact PyProof.Rows.eq_bool (w.post (.bool _))

def D.isNone : D → Option Bool
  | .none => some true
  | .bool _ | .int _ | .str _ | .tup _ | .lst _ | .rng .. | .ptr _ | .inst .. | .obj .. => some false
  | .raw _ => Option.none
theorem At.isNone {g : Im} {as : List Addr} {v : Value} {d : D} {b : Bool} (a : At g as v d) (e : d.isNone = some b) : (v == .none) = b := by
  cases a <;> simp [D.isNone] at e <;> subst e <;> rfl
theorem Cmp_is {d : D} {b : Bool} (e : d.isNone = some b) : Cmp C n tr .Is d .none b := fun A g as s v1 v2 L w a1 a2 => by
  cases a2; exact is_none (w.post (by rw [a1.isNone e]; exact .bool b))
theorem Cmp_isNot {d : D} {b : Bool} (e : d.isNone = some b) : Cmp C n tr .IsNot d .none (!b) := fun A g as s v1 v2 L w a1 a2 => by
  cases a2; exact isNot_none (w.post (by rw [a1.isNone e]; exact .bool _))

mutual
def D.py : D → Option PyData
  | .none => some .none
  | .bool b => some (.bool b)
  | .int i => some (.int i)
  | .tup ds => (D.pys ds).map .tuple
  | .lst ds => (D.pys ds).map .list
  | _ => Option.none
def D.pys : List D → Option (List PyData)
  | [] => some []
  | d :: ds => match d.py, D.pys ds with
    | some x, some xs => some (x :: xs)
    | _, _ => Option.none
end

mutual
theorem At.reads {g : Im} {as : List Addr} {h : Heap} (S : ∀ b o, g b = some o → h.get? b = some o) {v : Value} {d : D} {x : PyData} : At g as v d → d.py = some x → ∃ bs, Reads h v x bs ∧ x.canLay0 = true
  | .none, e => by simp [D.py] at e; subst e; exact ⟨_, .none, rfl⟩
  | .bool b, e => by simp [D.py] at e; subst e; exact ⟨_, .bool _, rfl⟩
  | .int i t, e => by simp [D.py] at e; subst e; exact ⟨_, .int _ _, rfl⟩
  | .str _ _, e => by simp [D.py] at e
  | .tup h r, e => by
    simp only [D.py, Option.map_eq_some_iff] at e
    obtain ⟨xs, e1, rfl⟩ := e
    obtain ⟨bs, R, c⟩ := Ats.reads S r e1
    exact ⟨_, .tuple (S _ _ h) rfl rfl R, by simpa [PyData.canLay0] using c⟩
  | .lst h r, e => by
    simp only [D.py, Option.map_eq_some_iff] at e
    obtain ⟨xs, e1, rfl⟩ := e
    obtain ⟨bs, R, c⟩ := Ats.reads S r e1
    exact ⟨_, .list (S _ _ h) rfl rfl R, by simpa [PyData.canLay0] using c⟩
  | .rng _, e => by simp [D.py] at e
  | .ptr _, e => by simp [D.py] at e
  | .inst _ _, e => by simp [D.py] at e
  | .obj _ _ _, e => by simp [D.py] at e
  | .raw _, e => by simp [D.py] at e
theorem Ats.reads {g : Im} {as : List Addr} {h : Heap} (S : ∀ b o, g b = some o → h.get? b = some o) {vs : List Value} {ds : List D} {xs : List PyData} : Ats g as vs ds → D.pys ds = some xs → ∃ bs, ReadsAll h vs xs bs ∧ PyData.canLayAll0 xs = true
  | .nil, e => by simp [D.pys] at e; subst e; exact ⟨_, .nil, rfl⟩
  | .cons (d := d) (ds := ds) a r, e => by
    simp only [D.pys] at e
    cases h1 : d.py with
    | none => rw [h1] at e; simp at e
    | some x =>
      cases h2 : D.pys ds with
      | none => rw [h1, h2] at e; simp at e
      | some ys =>
        rw [h1, h2] at e; simp at e; subst e
        obtain ⟨b1, R1, c1⟩ := At.reads S a h1
        obtain ⟨b2, R2, c2⟩ := Ats.reads S r h2
        exact ⟨_, .cons R1 R2, by simp [PyData.canLayAll0, c1, c2]⟩
end

mutual
theorem eqv_self : ∀ (d : D) (x : PyData), d.py = some x → PyData.eqv x x = true
  | .none, x, e => by simp [D.py] at e; subst e; rfl
  | .bool b, x, e => by simp [D.py] at e; subst e; simp [PyData.eqv]
  | .int i, x, e => by simp [D.py] at e; subst e; simp [PyData.eqv]
  | .tup ds, x, e => by
    simp only [D.py, Option.map_eq_some_iff] at e
    obtain ⟨xs, e1, rfl⟩ := e
    simp only [PyData.eqv]; exact eqvs_self ds xs e1
  | .lst ds, x, e => by
    simp only [D.py, Option.map_eq_some_iff] at e
    obtain ⟨xs, e1, rfl⟩ := e
    simp only [PyData.eqv]; exact eqvs_self ds xs e1
  | .str _, x, e => by simp [D.py] at e
  | .rng .., x, e => by simp [D.py] at e
  | .ptr _, x, e => by simp [D.py] at e
  | .inst .., x, e => by simp [D.py] at e
  | .obj .., x, e => by simp [D.py] at e
  | .raw _, x, e => by simp [D.py] at e
theorem eqvs_self : ∀ (ds : List D) (xs : List PyData), D.pys ds = some xs → PyData.eqvAll xs xs = true
  | [], xs, e => by simp [D.pys] at e; subst e; rfl
  | d :: ds, xs, e => by
    simp only [D.pys] at e
    cases h1 : d.py with
    | none => rw [h1] at e; simp at e
    | some x =>
      cases h2 : D.pys ds with
      | none => rw [h1, h2] at e; simp at e
      | some ys =>
        rw [h1, h2] at e; simp at e; subst e
        simp only [PyData.eqvAll, eqv_self d x h1, eqvs_self ds ys h2, Bool.and_true]
end

def D.plain (d : D) : Bool := match d.py with
  | some x => decide (x.depth ≤ 64)
  | Option.none => false
theorem Cmp_eqD {d : D} (h : d.plain = true) : Cmp C n tr .Eq d d true := fun A g as s v1 v2 L w a1 a2 => by
  unfold D.plain at h
  split at h
  · rename_i x hx
    obtain ⟨b1, R1, c1⟩ := a1.reads w.sub hx
    obtain ⟨b2, R2, c2⟩ := a2.reads w.sub hx
    have sh : SeqAt.shaped x = true := by unfold SeqAt.shaped; rw [c1, h]; rfl
    refine eq_dataH R1 R2 sh sh (by have := L.2.2.1; unfold cLine; omega) ?_
    rw [eqv_self d x hx]
    exact w.post (.bool true)
  · cases h
theorem Cmp_neD {d : D} (h : d.plain = true) : Cmp C n tr .NotEq d d false := fun A g as s v1 v2 L w a1 a2 => by
  unfold D.plain at h
  split at h
  · rename_i x hx
    obtain ⟨b1, R1, c1⟩ := a1.reads w.sub hx
    obtain ⟨b2, R2, c2⟩ := a2.reads w.sub hx
    have sh : SeqAt.shaped x = true := by unfold SeqAt.shaped; rw [c1, h]; rfl
    refine ne_dataH R1 R2 sh sh (by have := L.2.2.1; unfold cLine; omega) ?_
    rw [eqv_self d x hx]
    exact w.post (.bool false)
  · cases h

theorem Ev_cmp {l r : Expr} {op : CmpOp} {pos : Pos} {d1 d2 : D} {b : Bool} (h1 : Ev C n env Γ tr l tr1 d1) (h2 : Ev C n env Γ tr1 r tr2 d2) (h : Cmp C n tr2 op d1 d2 b) (hm : behindInMarks op r = false) :
    Ev C n env Γ tr (.Compare l [op] [r] pos) tr2 (.bool b) :=
  fun A g as s L w F => wpAny_Compare1 (wpAny_mono (h1 A g as s L w F) (fun v1 s1 p1 => by
    obtain ⟨g1, as1, G1, w1, a1⟩ := p1
    refine wpAny_mono (h2 A g1 as1 s1 L w1 (F.grow G1)) (fun v2 s2 p2 => ?_) fun _ _ h => h
    obtain ⟨g2, as2, G2, w2, a2⟩ := p2
    exact wpAny_mono (h A g2 as2 s2 v1 v2 L w2 (G2.at_ a1) a2) (fun v s3 p3 => Post.step (G1.trans G2) p3) fun _ _ h => h) fun _ _ h => h) hm

theorem Tt_cmp {l r : Expr} {op : CmpOp} {pos : Pos} {d1 d2 : D} {b : Bool} (h1 : Ev C n env Γ tr l tr1 d1) (h2 : Ev C n env Γ tr1 r tr2 d2) (h : Cmp C n tr2 op d1 d2 b) (hm : behindInMarks op r = false) :
    Tt C n env Γ tr (.Compare l [op] [r] pos) tr2 b :=
  fun A g as s L w F => wpAny_isTrue_Compare1 (wpAny_mono (h1 A g as s L w F) (fun v1 s1 p1 => by
    obtain ⟨g1, as1, G1, w1, a1⟩ := p1
    refine wpAny_mono (h2 A g1 as1 s1 L w1 (F.grow G1)) (fun v2 s2 p2 => ?_) fun _ _ h => h
    obtain ⟨g2, as2, G2, w2, a2⟩ := p2
    refine wpAny_mono (h A g2 as2 s2 v1 v2 L w2 (G2.at_ a1) a2) (fun v s3 p3 => ?_) fun _ _ h => h
    obtain ⟨g3, as3, G3, w3, a3⟩ := p3
    cases a3
    exact wpAny_truthy_bool ⟨rfl, _, _, (G1.trans G2).trans G3, w3⟩) fun _ _ h => h) hm

/-- truth of a bool -/
theorem Tt_bool {e : Expr} {b : Bool} (h : Ev C n env Γ tr e tr1 (.bool b)) (he : ∀ whole, isTrue e env whole = (do let v ← whole; standAt e.pos; holding [v] (truthy v))) : Tt C n env Γ tr e tr1 b :=
  fun A g as s L w F => wpAny_isTrue_value (wpAny_mono (h A g as s L w F) (fun v s1 p1 => by
    obtain ⟨g1, as1, G1, w1, a1⟩ := p1
    cases a1
    exact wpAny_truthy_bool ⟨rfl, _, _, G1, w1⟩) fun _ _ h => h) (he _)

theorem Tt_not {e : Expr} {pos : Pos} {b : Bool} (h : Tt C n env Γ tr e tr1 b) : Tt C n env Γ tr (.UnaryOp .Not e pos) tr1 (!b) :=
  fun A g as s L w F => wpAny_isTrue_Not (wpAny_mono (h A g as s L w F) (fun v s1 p1 => by
    obtain ⟨rfl, r⟩ := p1; exact ⟨rfl, r⟩) fun _ _ h => h)

theorem Tt_or_true {x y : Expr} {pos : Pos} (h : Tt C n env Γ tr x tr1 true) : Tt C n env Γ tr (.BoolOp .Or [x, y] pos) tr1 true :=
  fun A g as s L w F => wpAny_isTrue_BoolOp (wpAny_allTrue_Or_cons (wpAny_mono (h A g as s L w F) (fun v s1 p1 => by
    obtain ⟨rfl, r⟩ := p1; exact ⟨rfl, r⟩) fun _ _ h => h))
theorem Tt_or_false {x y : Expr} {pos : Pos} {b : Bool} (h : Tt C n env Γ tr x tr1 false) (k : Tt C n env Γ tr1 y tr2 b) : Tt C n env Γ tr (.BoolOp .Or [x, y] pos) tr2 b :=
  fun A g as s L w F => wpAny_isTrue_BoolOp (wpAny_allTrue_Or_cons (wpAny_mono (h A g as s L w F) (fun v s1 p1 => by
    obtain ⟨rfl, g1, as1, G1, w1⟩ := p1
    refine wpAny_allTrue_Or_cons (wpAny_mono (k A g1 as1 s1 L w1 (F.grow G1)) (fun v2 s2 p2 => ?_) fun _ _ h => h)
    obtain ⟨rfl, g2, as2, G2, w2⟩ := p2
    cases v2
    · exact wpAny_allTrue_Or_nil ⟨rfl, _, _, G1.trans G2, w2⟩
    · exact ⟨rfl, _, _, G1.trans G2, w2⟩) fun _ _ h => h))
theorem Tt_and_false {x y : Expr} {pos : Pos} (h : Tt C n env Γ tr x tr1 false) : Tt C n env Γ tr (.BoolOp .And [x, y] pos) tr1 false :=
  fun A g as s L w F => wpAny_isTrue_BoolOp (wpAny_allTrue_And_cons (wpAny_mono (h A g as s L w F) (fun v s1 p1 => by
    obtain ⟨rfl, r⟩ := p1; exact ⟨rfl, r⟩) fun _ _ h => h))
theorem Tt_and_true {x y : Expr} {pos : Pos} {b : Bool} (h : Tt C n env Γ tr x tr1 true) (k : Tt C n env Γ tr1 y tr2 b) : Tt C n env Γ tr (.BoolOp .And [x, y] pos) tr2 b :=
  fun A g as s L w F => wpAny_isTrue_BoolOp (wpAny_allTrue_And_cons (wpAny_mono (h A g as s L w F) (fun v s1 p1 => by
    obtain ⟨rfl, g1, as1, G1, w1⟩ := p1
    refine wpAny_allTrue_And_cons (wpAny_mono (k A g1 as1 s1 L w1 (F.grow G1)) (fun v2 s2 p2 => ?_) fun _ _ h => h)
    obtain ⟨rfl, g2, as2, G2, w2⟩ := p2
    cases v2
    · exact ⟨rfl, _, _, G1.trans G2, w2⟩
    · exact wpAny_allTrue_And_nil ⟨rfl, _, _, G1.trans G2, w2⟩) fun _ _ h => h))

/-- or, and as values: of bools -/
theorem Ev_or {x y : Expr} {pos : Pos} {b : Bool} {d : D} (h : Ev C n env Γ tr x tr1 (.bool b)) (ht : b = true → tr2 = tr1 ∧ d = .bool true) (hf : b = false → Ev C n env Γ tr1 y tr2 d) : Ev C n env Γ tr (.BoolOp .Or [x, y] pos) tr2 d :=
  fun A g as s L w F => wpAny_Or2 (wpAny_mono (h A g as s L w F) (fun v s1 p1 => by
    obtain ⟨g1, as1, G1, w1, a1⟩ := p1
    cases a1
    refine wpAny_truthy_bool ?_
    cases b
    · exact wpAny_mono (hf rfl A g1 as1 s1 L w1 (F.grow G1)) (fun _ _ p => Post.step G1 p) fun _ _ h => h
    · obtain ⟨rfl, rfl⟩ := ht rfl
      exact ⟨_, _, G1, w1, .bool true⟩) fun _ _ h => h)
theorem Ev_and {x y : Expr} {pos : Pos} {b : Bool} {d : D} (h : Ev C n env Γ tr x tr1 (.bool b)) (ht : b = false → tr2 = tr1 ∧ d = .bool false) (hf : b = true → Ev C n env Γ tr1 y tr2 d) : Ev C n env Γ tr (.BoolOp .And [x, y] pos) tr2 d :=
  fun A g as s L w F => wpAny_And2 (wpAny_mono (h A g as s L w F) (fun v s1 p1 => by
    obtain ⟨g1, as1, G1, w1, a1⟩ := p1
    cases a1
    refine wpAny_truthy_bool ?_
    cases b
    · obtain ⟨rfl, rfl⟩ := ht rfl
      exact ⟨_, _, G1, w1, .bool false⟩
    · exact wpAny_mono (hf rfl A g1 as1 s1 L w1 (F.grow G1)) (fun _ _ p => Post.step G1 p) fun _ _ h => h) fun _ _ h => h)

theorem Ev_ifexp {test body orelse : Expr} {pos : Pos} {b : Bool} {d : D} (ht : Tt C n env Γ tr test tr1 b) (h : Ev C n env Γ tr1 (if b then body else orelse) tr2 d) : Ev C n env Γ tr (.IfExp test body orelse pos) tr2 d :=
  fun A g as s L w F => by
    show wpAny _ A (do if ← isTrue test env (eval test env) then eval body env else eval orelse env) _ _ s
    refine wpAny_bind (wpAny_mono (ht A g as s L w F) (fun r s1 p1 => ?_) fun _ _ h => h)
    obtain ⟨rfl, g1, as1, G1, w1⟩ := p1
    cases r <;> exact wpAny_mono (h A g1 as1 s1 L w1 (F.grow G1)) (fun _ _ p => Post.step G1 p) fun _ _ h => h
end

section
variable {C : Cx} {n : Nat} {env : Env} {Γ : List (Str × D)} {tr tr1 tr2 tr3 : List MObj}

/-! subscripts -/
def nth (ds : List D) (k : Int) : Option D := if 0 ≤ k then ds[k.toNat]? else Option.none
def idx (tr : List MObj) : D → Int → Option D
  | .tup ds, k => nth ds k
  | .lst ds, k => nth ds k
  | .ptr m, k => match tr[m]? with
    | some (.lst ds) => nth ds k
    | _ => Option.none
  | _, _ => Option.none
theorem nth_some {ds : List D} {k : Int} {d : D} (h : nth ds k = some d) : 0 ≤ k ∧ ds[k.toNat]? = some d := by
  unfold nth at h
  split at h
  · exact ⟨by assumption, h⟩
  · cases h

theorem list_item {g : Im} {as : List Addr} {s : Shared} {vs : List Value} {ds : List D} {a : Addr} {q : Nat} {k : Int} {d : D} (w : W C g as tr s) (e : s.heap.get? a = some (lstObj vs q)) (hvs : Ats g as vs ds) (hd : nth ds k = some d) (hk : k < 2 ^ 62) {A : Around} {u : Tok} {value slice : Expr}
    (hs : subscripted slice false (.ref a) (.int k u) = operate [.ref a, .int k u] (getItem (.ref a) (.int k u))) : wpAny (model C.prog C.w) A (subscriptTail value slice (.ref a) (.int k u)) (Post C noW g as s tr d) noE s := by
  obtain ⟨h0, hd⟩ := nth_some hd
  obtain ⟨x, hx, ax⟩ := hvs.get hd
  exact tail_any (T := "list") (id := "list.__getitem__") ⟨_, e, rfl⟩ slot_list_getitem.lookup (wpAny_getItem_list (items := vs.toArray) ⟨_, e, rfl, q, rfl⟩ h0 (by omega) (by simpa using hx) (w.post ax)) hs

theorem Ev_sub {v i : Expr} {pos : Pos} {dv d : D} {k : Int} (hv : Ev C n env Γ tr v tr1 dv) (hi : Ev C n env Γ tr1 i tr2 (.int k)) (hd : idx tr2 dv k = some d) (hk : k < 2 ^ 62)
    (hs : ∀ o iv, subscripted i false o iv = operate [o, iv] (getItem o iv)) : Ev C n env Γ tr (.Subscript v i pos) tr2 d :=
  fun A g as s L w F => Subscript_ (wpAny_mono (hv A g as s L w F) (fun o s1 p1 => by
    obtain ⟨g1, as1, G1, w1, a1⟩ := p1
    refine wpAny_mono (hi A g1 as1 s1 L w1 (F.grow G1)) (fun iv s2 p2 => ?_) fun _ _ h => h
    obtain ⟨g2, as2, G2, w2, a2⟩ := p2
    have G := G1.trans G2
    have b1 := G2.at_ a1
    cases a2
    cases b1 with
    | @tup a vs q ds ha hvs =>
      obtain ⟨h0, hd⟩ := nth_some hd
      obtain ⟨x, hx, ax⟩ := hvs.get hd
      have hlt : k.toNat < vs.length := (List.getElem?_eq_some_iff.mp hx).1
      exact item_tupleT (l := vs) (j := k.toNat) ⟨_, w2.sub _ _ ha, rfl, q, rfl⟩ (by omega) (by omega) (by unfold seqIndex?; rw [if_neg (Int.not_lt.mpr h0)]; simp only [Bool.and_eq_true, decide_eq_true_eq]; rw [if_pos ⟨h0, by omega⟩]) hx (Post.step G (w2.post ax)) (hs _ _)
    | @lst a vs q ds ha hvs => exact wpAny_mono (list_item w2 (w2.sub _ _ ha) hvs hd hk (hs _ _)) (fun _ _ p => Post.step G p) fun _ _ h => h
    | @ptr m a hm =>
      simp only [idx] at hd
      split at hd
      · rename_i ds e
        obtain ⟨_, vs, q, e', hvs⟩ := w2.lstAt hm e
        exact wpAny_mono (list_item w2 e' hvs hd hk (hs _ _)) (fun _ _ p => Post.step G p) fun _ _ h => h
      · cases hd
    | _ => simp [idx] at hd) fun _ _ h => h)

/-! calls -/
def Kept (C : Cx) (f : Value) : Prop := C.Ok → ∀ M h, (∀ b o, C.H0.get? b = some o → h.get? b = some o) → ∃ k, (k = Keeper.frame ∨ k = Keeper.machine ∨ k = Keeper.boundFrame) ∧ Looks M h (keeperOf f) k
theorem Kept_builtin (id : String) : Kept C (.builtin id) := fun _ M h _ => ⟨.machine, .inr (.inl rfl), Looks.of_pure rfl⟩
theorem Kept_type (id : String) : Kept C (.type id) := fun _ M h _ => ⟨.machine, .inr (.inl rfl), Looks.of_pure rfl⟩
theorem Kept_K {f : Value} (hk : keepIn C.K f = true) : Kept C f := fun ok M h k => keeps_K hk h (ok.kin.keeps k)

theorem Ev_call {x : Str} {p pos : Pos} {e : Expr} {rest : List Expr} {f : Value} {ds : List D} {d : D} (hf : Ev C n env Γ tr (.Name x p) tr (.raw f)) (ha : Evs C n env Γ tr pos (e :: rest) tr1 ds) (hc : Fn C n f tr1 ds tr2 d) (hk : Kept C f)
    (he : starEach (e :: rest) env = (false, eval e env) :: starEach rest env) (hp : (backTo pos (starEach rest env)).any (·.1) = false) : Ev C n env Γ tr (.Call (.Name x p) (e :: rest) [] pos) tr2 d :=
  fun A g as s L w F => Call_Name rfl (wpAny_mono (hf A g as s L w F) (fun fv s1 p1 => by
    obtain ⟨g1, as1, G1, w1, a1⟩ := p1
    cases a1
    have hE := ha A g1 as1 s1 L w1 (F.grow G1)
    rw [he] at hE ⊢
    refine callWith_of (P := fun h => ∀ b o, C.H0.get? b = some o → h.get? b = some o) (by show ((false || (backTo pos (starEach rest env)).any (·.1)) || false) = false; rw [hp]; rfl) (fun h k => hk w1.ok _ h k)
      (evalArgs_plain (wpAny_mono hE (fun vs s2 p2 => ?_) fun _ _ h => h))
    obtain ⟨g2, as2, G2, w2, a2⟩ := p2
    exact ⟨w2.kept0, wpAny_mono (hc A g2 as2 s2 vs L w2 a2) (fun _ _ p => Post.step (G1.trans G2) p) fun _ _ h => h⟩) fun _ _ h => h)

/-! built-ins -/
theorem Fn_len {d : D} {ds : List D} (hd : d = .lst ds ∨ ∃ m, d = .ptr m ∧ tr[m]? = some (.lst ds)) (hz : ds.length ≤ 1000000) : Fn C n (.builtin "len") tr [d] tr (.int ds.length) := fun A g as s vs L w a => by
  cases a with
  | cons a r =>
  cases r
  have key : ∀ {a vs q}, s.heap.get? a = some (lstObj vs q) → Ats g as vs ds → wpAny (model C.prog C.w) A (call (.builtin "len") [.ref a]) (Post C noW g as s tr (.int ds.length)) noE s := fun e hvs =>
    call_len_list ⟨_, e, rfl, _, rfl⟩ (by rw [List.size_toArray, hvs.length]; omega) (by rw [List.size_toArray, hvs.length]; exact w.postT _ (.int _ _))
  rcases hd with rfl | ⟨m, rfl, hm⟩
  · cases a with
    | lst ha hvs => exact key (w.sub _ _ ha) hvs
  · cases a with
    | ptr hp => obtain ⟨_, vs, q, e', hvs⟩ := w.lstAt hp hm; exact key e' hvs

theorem W.fresh {g : Im} {as : List Addr} {s s' : Shared} (w : W C g as tr s) {o : Obj} (hh : s'.heap = s.heap.push o) (hf : o.isFreed = false) (ho : s'.os = s.os) (hg : s'.gens = s.gens) {d : D} (ha : At (upd g s.heap.objs.size o) as (.ref s.heap.objs.size) d) :
    Post C noW g as s tr d (.ref s.heap.objs.size) s' := by
  obtain ⟨w2, G2⟩ := w.add (s' := s') (a := s.heap.objs.size) (o := o) (fun b o' e => by rw [hh]; exact Heap.get?_push_of_some _ e) (Heap.get?_none_of_le (Nat.le_refl _)) (by rw [hh]; exact Heap.get?_push_size _ hf) ho hg
  exact ⟨_, _, G2, w2, ha⟩

theorem Fn_range1 {i : Int} : Fn C n (.type "range") tr [.int i] tr (.rng 0 i 1) := fun A g as s vs L w a => by
  cases a with
  | cons a r =>
  cases r; cases a
  refine call_range_1 ?_
  refine' W.fresh w ?a ?b ?c ?d ?e; (case a => exact rfl); (case b => exact rfl); (case c => exact rfl); (case d => exact rfl); (case e => exact .rng (upd_self _ _ _))
theorem Fn_range2 {i j : Int} : Fn C n (.type "range") tr [.int i, .int j] tr (.rng i j 1) := fun A g as s vs L w a => by
  cases a with
  | cons a r =>
  cases r with
  | cons b r =>
  cases r; cases a; cases b
  refine call_range_2 ?_
  refine' W.fresh w ?a ?b ?c ?d ?e; (case a => exact rfl); (case b => exact rfl); (case c => exact rfl); (case d => exact rfl); (case e => exact .rng (upd_self _ _ _))
theorem Fn_range3 {i j k : Int} (hk : k ≠ 0) : Fn C n (.type "range") tr [.int i, .int j, .int k] tr (.rng i j k) := fun A g as s vs L w a => by
  cases a with
  | cons a r =>
  cases r with
  | cons b r =>
  cases r with
  | cons c r =>
  cases r; cases a; cases b; cases c
  obtain ⟨e, l, hf, g1, g2, g3, g4⟩ := L.2.2.2
  refine call_range_3 hk ?_ (.inr (PylongRoom.of (w.ok.lim.keeps w.kept0) (by have := L.2.1; unfold Builtin.pylongFrames recursionLimit; omega)
    (SeerAt.of (w.ok.seer.keeps w.kept0) w.ok.tree hf g1 g2 g3 g4)))
  refine' W.fresh w ?a ?b ?c ?d ?e; (case a => exact rfl); (case b => exact rfl); (case c => exact rfl); (case d => exact rfl); (case e => exact .rng (upd_self _ _ _))
theorem Fn_abs {i : Int} : Fn C n (.builtin "abs") tr [.int i] tr (.int (if i < 0 then -i else i)) := fun A g as s vs L w a => by
  cases a with
  | cons a r =>
  cases r; cases a
  exact call_abs_int fun u tk => w.postT _ (.int _ _)
theorem Fn_max {i j : Int} : Fn C n (.builtin "max") tr [.int i, .int j] tr (.int (if j > i then j else i)) := fun A g as s vs L w a => by
  cases a with
  | cons a r =>
  cases r with
  | cons b r =>
  cases r; cases a; cases b
  refine max_two_ints L.1 fun h' tk k => ?_
  obtain ⟨w2, G2⟩ := w.kept (s' := { s with heap := h', toks := tk }) k rfl rfl
  refine ⟨_, _, G2, w2, ?_⟩
  split <;> exact .int _ _

/-- list(xs) as a new immutable list -/
theorem Fn_list {d : D} {ds : List D} (hd : d = .lst ds ∨ ∃ m, d = .ptr m ∧ tr[m]? = some (.lst ds)) (hz : ds.length ≤ 1000000) : Fn C n (.type "list") tr [d] tr (.lst ds) := fun A g as s vs L w a => by
  cases a with
  | cons a r =>
  cases r
  have key : ∀ {a vs q}, s.heap.get? a = some (lstObj vs q) → Ats g as vs ds → wpAny (model C.prog C.w) A (call (.type "list") [.ref a]) (Post C noW g as s tr (.lst ds)) noE s := fun {a vs q} e hvs => by
    refine call_list_seq (T := "list") a (.inl rfl) e rfl rfl (fun h' c' k hD => ?_) (by rw [List.size_toArray, hvs.length, sizeLine_eq]; omega)
    obtain ⟨w2, G2⟩ := w.add (s' := { s with heap := h' }) (a := s.heap.objs.size) (o := lstObj vs c') k (Heap.get?_none_of_le (Nat.le_refl _)) hD rfl rfl
    exact ⟨_, _, G2, w2, .lst (upd_self _ _ _) (G2.ats hvs)⟩
  rcases hd with rfl | ⟨m, rfl, hm⟩
  · cases a with
    | lst ha hvs => exact key (w.sub _ _ ha) hvs
  · cases a with
    | ptr hp => obtain ⟨_, vs, q, e', hvs⟩ := w.lstAt hp hm; exact key e' hvs
/-- list(xs) as a new mutable location -/
theorem Fn_listM {d : D} {ds : List D} (hd : d = .lst ds ∨ ∃ m, d = .ptr m ∧ tr[m]? = some (.lst ds)) (hz : ds.length ≤ 1000000) : Fn C n (.type "list") tr [d] (tr ++ [.lst ds]) (.ptr tr.length) := fun A g as s vs L w a => by
  cases a with
  | cons a r =>
  cases r
  have key : ∀ {a vs q}, s.heap.get? a = some (lstObj vs q) → Ats g as vs ds → wpAny (model C.prog C.w) A (call (.type "list") [.ref a]) (Post C noW g as s (tr ++ [.lst ds]) (.ptr tr.length)) noE s := fun {a vs q} e hvs => by
    refine call_list_seq (T := "list") a (.inl rfl) e rfl rfl (fun h' c' k hD => ?_) (by rw [List.size_toArray, hvs.length, sizeLine_eq]; omega)
    have new : s.heap.get? s.heap.objs.size = none := Heap.get?_none_of_le (Nat.le_refl _)
    obtain ⟨w2, G2⟩ := w.loc (s' := { s with heap := h' }) (a := s.heap.objs.size) (m := .lst ds) k new ⟨w.gnone new, vs, c', hD, hvs.mono (Sub.refl _)⟩ rfl rfl
    exact ⟨_, _, G2, w2, .ptr (by rw [← w.len]; simp)⟩
  rcases hd with rfl | ⟨m, rfl, hm⟩
  · cases a with
    | lst ha hvs => exact key (w.sub _ _ ha) hvs
  · cases a with
    | ptr hp => obtain ⟨_, vs, q, e', hvs⟩ := w.lstAt hp hm; exact key e' hvs

theorem ints_of {g : Im} {as : List Addr} : ∀ {ns : List Int} {vs : List Value}, Ats g as vs (ns.map .int) → IntsAre vs ns
  | [], _, .nil => .nil
  | n :: ns, _, .cons a r => by cases a; exact .cons _ _ (ints_of r)
theorem Fn_sum {ns : List Int} : Fn C n (.builtin "sum") tr [.lst (ns.map .int)] tr (.int ns.sum) := fun A g as s vs L w a => by
  cases a with
  | cons a r =>
  cases r
  cases a with
  | @lst a vs q _ ha hvs =>
  have hi := ints_of hvs
  obtain ⟨xs, hxs⟩ := hi.allInts.items
  have hl : s.heap.IsList a vs.toArray := ⟨_, w.sub _ _ ha, rfl, q, rfl⟩
  rw [hxs] at hl
  refine sum_intListG L.1 hl fun h' tk t' k => ?_
  have e : preSum (numAt xs) xs.size = ns.sum := by
    have h1 := nums_intItems xs
    rw [← hxs] at h1
    have h2 : numsOf vs.toArray.toList = ns := by rw [show vs.toArray.toList = vs from rfl]; exact hi.numsOf
    rw [← h2, h1, preSum_eq, List.take_of_length_le (by simp)]
  rw [e]
  obtain ⟨w2, G2⟩ := w.kept (s' := { s with heap := h', toks := tk }) k rfl rfl
  exact ⟨_, _, G2, w2, .int _ _⟩
end

section
variable {C : Cx} {n : Nat} {env : Env} {Γ : List (Str × D)} {tr tr1 tr2 tr3 : List MObj}

/-- the frame's own object is turned -/
theorem W.over {g : Im} {as : List Addr} {s s' : Shared} (w : W C g as tr s) {b0 : Addr} {wr : Addr → Prop} (hw : wr b0) (hg : g b0 = none) (ha : b0 ∉ as) (k : ∀ b o, b ≠ b0 → s.heap.get? b = some o → s'.heap.get? b = some o) (al : ∃ o, s'.heap.get? b0 = some o)
    (ho : s'.os = s.os) (hgn : s'.gens = s.gens) : W C g as tr s' ∧ Grow wr g as s g as s' := by
  refine ⟨⟨w.ok, w.base, fun b o e => k b o (fun h => by subst h; rw [hg] at e; cases e) (w.sub b o e), ho.trans w.os, hgn.trans w.gens, w.nod, w.len, fun i b m hb hm => ?_⟩, Sub.refl g, ⟨[], by simp⟩, fun b o hb hwb e => k b o (fun h => hwb (h ▸ hw)) e, fun b o e => ?_, fun b o e n _ => (by rw [e] at n; cases n), fun b h n => absurd h n⟩
  · have := (w.mob i b m hb hm).kept (l := []) (Sub.refl g) (fun o e => k b o (fun (h : b = b0) => ha (by rw [← h]; exact List.mem_of_getElem? hb)) e) id
    simpa using this
  · by_cases hb : b = b0
    · subst hb; exact al
    · exact ⟨o, k b o hb e⟩

/-- where a name lies -/
def slotOf (env : Env) (x : Str) : Addr → Prop := fun b => (env.kindOf x = some .local ∧ b = env.locals) ∨ (env.kindOf x = some .cell ∧ env.cells.lookup x = some b)
theorem slot_wr {env : Env} {x : Str} : ∀ b, slotOf env x b → wrOf env b := fun b h => h.elim (fun h => .inl h.2) fun h => .inr ⟨x, h.2⟩

theorem store_any {A : Around} {g : Im} {as : List Addr} {s : Shared} {x : Str} {v : Value} {d : D} (w : W C g as tr s) (F : Fm env g as Γ s.heap) (a : At g as v d)
    (hk : env.kindOf x = some .local ∨ (env.kindOf x = some .cell ∧ (env.cells.lookup x).isSome = true)) :
    wpAny (model C.prog C.w) A (storeName env x v) (fun _ s' => Grow (slotOf env x) g as s g as s' ∧ W C g as tr s' ∧ Fm env g as ((x, d) :: Γ) s'.heap) noE s := by
  obtain ⟨m, hn, hm⟩ := F.ns
  have lk : ∀ (y : Str) (e : D), List.lookup y ((x, d) :: Γ) = some e → (y = x ∧ e = d) ∨ (y ≠ x ∧ List.lookup y Γ = some e) := fun y e h => by
    rw [List.lookup_cons] at h
    by_cases hy : y = x
    · subst hy; simp at h; exact .inl ⟨rfl, h.symm⟩
    · have : (y == x) = false := beq_eq_false_iff_ne.mpr hy
      rw [this] at h; exact .inr ⟨hy, h⟩
  rcases hk with hk | ⟨hk, hc⟩
  · refine wpAny_storeName_local hk hn (fun h' hn' hs => ?_) (by rw [F.kind]; rfl)
    obtain ⟨w2, G2⟩ := w.over (s' := { s with heap := h', toks := s.toks + 1 }) (b0 := env.locals) (wr := slotOf env x) (.inl ⟨hk, rfl⟩) F.lfree.1 F.lfree.2 (fun b o hb e => (hs.2 b hb).trans e) (ns_some hn') rfl rfl
    refine ⟨G2, w2, F.kind, F.glob, F.blt, ⟨_, hn', fun y e hy hky => ?_⟩, F.lfree, fun y c hy => ?_, fun y e hy hky => ?_, F.apart⟩
    · rcases lk y e hy with ⟨rfl, rfl⟩ | ⟨hne, hy⟩
      · exact ⟨v, by simp, a⟩
      · obtain ⟨u, hu, ha⟩ := hm y e hy hky
        exact ⟨u, by simp [hne, hu], ha⟩
    · obtain ⟨h1, h2, h3, u, o, ho, hd⟩ := F.cfree y c hy
      exact ⟨h1, h2, h3, u, o, (hs.2 c h3).trans ho, hd⟩
    · rcases lk y e hy with ⟨rfl, rfl⟩ | ⟨hne, hy⟩
      · rw [hk] at hky; cases hky
      · obtain ⟨c, u, hcl, ⟨o, ho, hd⟩, ha⟩ := F.cell y e hy hky
        exact ⟨c, u, hcl, ⟨o, (hs.2 c (F.cfree y c hcl).2.2.1).trans ho, hd⟩, ha⟩
  · obtain ⟨c, hc⟩ := Option.isSome_iff_exists.mp hc
    obtain ⟨h1, h2, h3, v0, hv0⟩ := F.cfree x c hc
    refine wpAny_storeName_cell F.kind hk hc hv0 (fun h' hn' hs => ?_)
    obtain ⟨oc, hoc, hdc⟩ := hn'
    obtain ⟨w2, G2⟩ := w.over (s' := { s with heap := h' }) (b0 := c) (wr := slotOf env x) (.inr ⟨hk, hc⟩) h1 h2 (fun b o hb e => (hs.2 b hb).trans e) ⟨_, hoc⟩ rfl rfl
    refine ⟨G2, w2, F.kind, F.glob, F.blt, ⟨m, ns_at hn (fun o e => (hs.2 _ (Ne.symm h3)).trans e), fun y e hy hky => ?_⟩, F.lfree, fun y c' hy => ?_, fun y e hy hky => ?_, F.apart⟩
    · rcases lk y e hy with ⟨rfl, rfl⟩ | ⟨hne, hy⟩
      · rw [hk] at hky; cases hky
      · exact hm y e hy hky
    · obtain ⟨q1, q2, q3, u, o, ho, hd⟩ := F.cfree y c' hy
      refine ⟨q1, q2, q3, ?_⟩
      by_cases hcc : c' = c
      · subst hcc; exact ⟨_, oc, hoc, hdc⟩
      · exact ⟨u, o, (hs.2 c' hcc).trans ho, hd⟩
    · rcases lk y e hy with ⟨rfl, rfl⟩ | ⟨hne, hy⟩
      · exact ⟨c, v, hc, ⟨oc, hoc, hdc⟩, a⟩
      · obtain ⟨c', u, hcl, ⟨o, ho, hd⟩, ha⟩ := F.cell y e hy hky
        have hcc : c' ≠ c := fun h => hne (F.apart y x c (h ▸ hcl) hc)
        exact ⟨c', u, hcl, ⟨o, (hs.2 c' hcc).trans ho, hd⟩, ha⟩

abbrev Stores (env : Env) (x : Str) : Prop := env.kindOf x = some .local ∨ (env.kindOf x = some .cell ∧ (env.cells.lookup x).isSome = true)

theorem Ex1_assign {x : Str} {xp pos : Pos} {value : Expr} {d : D} (h : Ev C n env Γ tr value tr1 d) (hk : Stores env x) (hs : swapsWith value (some (.Name x xp)) pos.line env = pure false) :
    Ex1 C n env Γ tr (.Assign [.Name x xp] value pos) (.next ((x, d) :: Γ) tr1) :=
  fun A g as s L w F => wpAny_Assign_Name (wpAny_mono (h A g as s L w F) (fun v s1 p1 => by
    obtain ⟨g1, as1, G1, w1, a1⟩ := p1
    refine wpAny_mono (store_any w1 (F.grow G1) a1 hk) (fun _ s2 p2 => ?_) fun _ _ h => h
    exact ⟨g1, as1, G1.noW.trans (p2.1.wider slot_wr), p2.2⟩) fun _ _ h => h) hs

/-- an expression statement whose value is no object -/
theorem Ex1_expr {e : Expr} {pos : Pos} (h : ∀ A g as s, Lv n A → W C g as tr s → Fm env g as Γ s.heap → wpAny (model C.prog C.w) A (eval e env) (fun v s' => v = .none ∧ Grow noW g as s g as s' ∧ W C g as tr1 s') noE s)
    (hi : interactive env = false) (hs : swapsWith e none pos.line env = pure false) : Ex1 C n env Γ tr (.Expr e pos) (.next Γ tr1) :=
  fun A g as s L w F => wpAny_Expr (wpAny_mono (h A g as s L w F) (fun v s1 p1 => by
    obtain ⟨rfl, G1, w1⟩ := p1
    exact ⟨g, as, G1.noW, w1, F.grow G1⟩) fun _ _ h => h) hi hs

theorem append_loc {A : Around} {g : Im} {as : List Addr} {s : Shared} {a : Addr} {m : Nat} {ds : List D} {v : Value} {d : D} (w : W C g as tr s) (hp : as[m]? = some a) (hm : tr[m]? = some (.lst ds)) (hv : At g as v d) (hz : ds.length ≤ 1000000) :
    wpAny (model C.prog C.w) A (call (.builtin "list.append") [.ref a, v]) (fun r s' => r = .none ∧ Grow noW g as s g as s' ∧ W C g as (tr.set m (.lst (ds ++ [d]))) s') noE s := by
  obtain ⟨gn, vs, q, e, hvs⟩ := w.lstAt hp hm
  refine append_at e (fun h' hs ho => ?_) (by rw [List.size_toArray, hvs.length, sizeLine_eq]; omega)
  obtain ⟨w2, G2⟩ := w.turn (s' := { s with heap := h' }) (m := .lst (ds ++ [d])) hp (fun b hb => hs.2 b hb) gn ⟨gn, vs ++ [v], q + 1, by rw [ho]; simp [lstObj], hvs.append (.cons hv .nil)⟩ rfl rfl
  exact ⟨rfl, G2, w2⟩

theorem Ex1_append {o e : Expr} {ap pos pos2 : Pos} {m : Nat} {ds : List D} {d : D} (ho : Ev C n env Γ tr o tr1 (.ptr m)) (he : Ev C n env Γ tr1 e tr2 d) (hm1 : ∃ ds1, tr1[m]? = some (.lst ds1)) (hm : tr2[m]? = some (.lst ds)) (hz : ds.length ≤ 1000000)
    (hst : starEach [e] env = [(false, eval e env)])
    (hi : interactive env = false) (hs : swapsWith (.Call (.Attribute o (PySem.Str.ofString "append") ap) [e] [] pos) none pos2.line env = pure false)
    (hf : ∃ pl, eval (.Call (.Attribute o (PySem.Str.ofString "append") ap) [e] [] pos) env = (do
      let ov ← eval o env
      standAt ap.atName
      let (f, first) ← holding [ov] (getMethod ov (PySem.Str.ofString "append") pl)
      callWith pos f first (backTo pos (starEach [e] env)) [])) :
    Ex1 C n env Γ tr (.Expr (.Call (.Attribute o (PySem.Str.ofString "append") ap) [e] [] pos) pos2) (.next Γ (tr2.set m (.lst (ds ++ [d])))) :=
  fun A g as s L w F => by
    obtain ⟨pl, hf⟩ := hf
    refine wpAny_Expr (Q := OutP C env g as s _) (MethodCall_ (pl := pl) (wpAny_mono (ho A g as s L w F) (fun ov s1 p1 => ?_) fun _ _ h => h) hf) hi hs
    obtain ⟨g1, as1, G1, w1, a1⟩ := p1
    cases a1 with
    | @ptr m a hp =>
    have hE := he A g1 as1 s1 L w1 (F.grow G1)
    have hcall : wpAny (model C.prog C.w) A (callWith pos (.builtin "list.append") [.ref a] (backTo pos (starEach [e] env)) []) (fun v s' => match v with | .ref _ => False | _ => OutP C env g as s (.next Γ (tr2.set m (.lst (ds ++ [d])))) .next s') noE s1 := by
      rw [hst]
      refine callWith_builtin (by rfl) (evalArgs_plain (spliced_cons (wpAny_mono hE (fun v s2 p2 => spliced_nil ?_) fun _ _ h => h)))
      obtain ⟨g2, as2, G2, w2, a2⟩ := p2
      obtain ⟨l, rfl⟩ := G2.pre
      refine wpAny_mono (append_loc w2 (pre_get hp) hm a2 hz) (fun r s3 p3 => ?_) fun _ _ h => h
      obtain ⟨rfl, G3, w3⟩ := p3
      exact ⟨_, _, ((G1.trans G2).trans G3).noW, w3, ((F.grow G1).grow G2).grow G3⟩
    obtain ⟨ds1, hm1⟩ := hm1
    obtain ⟨_, vs1, q1, e1, _⟩ := w1.lstAt hp hm1
    exact Calls.getMethod_list_append e1 rfl rfl hcall

/-- xs[k] = v -/
theorem setItem_loc {A : Around} {g : Im} {as : List Addr} {s : Shared} {a : Addr} {m : Nat} {ds : List D} {v : Value} {d : D} {k : Int} {t : Tok} (w : W C g as tr s) (hp : as[m]? = some a) (hm : tr[m]? = some (.lst ds)) (hv : At g as v d)
    (h0 : 0 ≤ k) (hfit : k < 2 ^ 62) (hn : k < ds.length) :
    wpAny (model C.prog C.w) A (setItem (.ref a) (.int k t) v) (fun _ s' => Grow noW g as s g as s' ∧ W C g as (tr.set m (.lst (ds.set k.toNat d))) s') noE s := by
  obtain ⟨gn, vs, q, e, hvs⟩ := w.lstAt hp hm
  have hT : s.TypeIs (.ref a) "list" := ⟨_, e, rfl⟩
  unfold setItem
  try with_reducible refine wpAny_holding ?_
  first | refine wpAny_bind (wpAny_pure ?_) | skip
  refine wpAny_bind (wpAny_sequenceKey hT (by decide) ?_)
  refine wpAny_bind (wpAny_callSpecial?_slot (name := Str.ofString "__setitem__") hT slot_list_setitem
    (wpAny_call_entry slot_list_setitem hT entry_list_setitem ?_ (args_list_setitem _ _ _)))
  show wpAny _ _ (Builtin.List.listSubscript? (.int k t) >>= _) _ _ s
  refine wpAny_bind (wpAny_listSubscript_int (by simp [Builtin.List.listFitsIndex]; omega) ?_)
  obtain ⟨j, rfl⟩ := Int.eq_ofNat_of_zero_le h0
  have hj : j < vs.length := by rw [hvs.length]; omega
  have hx' : vs.toArray[j]? = some vs[j] := by simp [hj]
  show wpAny _ _ ((seqItemAt a j >>= fun r => pure (r.map (j, ·))) >>= _) _ _ s
  refine wpAny_bind (wpAny_bind (wpAny_seqItemAt e rfl (wpAny_pure ?_)))
  rw [hx']
  show wpAny _ _ (setSeqItemAt a j v >>= _) _ _ s
  have hfin : (s.heap.update a (Obj.mapSeq (·.setIfInBounds j v))).get? a = some (lstObj (vs.set j v) q) := by
    rw [Heap.get?_update_self _ e (by simp [Obj.mapSeq, Obj.isFreed])]
    simp [Obj.mapSeq, lstObj]
  obtain ⟨w2, G2⟩ := w.turn (s' := { s with heap := s.heap.update a (Obj.mapSeq (·.setIfInBounds j v)) }) (m := .lst (ds.set j d)) hp (fun b hb => (Heap.SameBut.update ..).2 b hb) gn ⟨gn, vs.set j v, q, hfin, hvs.set hv j⟩ rfl rfl
  refine wpAny_bind (wpAny_setSeqItemAt e rfl ?_)
  first
    | exact wpAny_bind (wpAny_pure (wpAny_pure ⟨.none, rfl, wpAny_pure ⟨G2, w2⟩⟩))
    | exact wpAny_pure ⟨.none, rfl, wpAny_pure ⟨G2, w2⟩⟩

theorem Ex1_setitem {o i value : Expr} {sp pos : Pos} {m : Nat} {ds : List D} {d : D} {k : Int} (hv : Ev C n env Γ tr value tr1 d) (ho : Ev C n env Γ tr1 o tr2 (.ptr m)) (hi : Ev C n env Γ tr2 i tr3 (.int k)) (hm : tr3[m]? = some (.lst ds))
    (h0 : 0 ≤ k) (hn : k < ds.length) (hfit : k < 2 ^ 62) (hs : swapsWith value (some (.Subscript o i sp)) pos.line env = pure false) :
    Ex1 C n env Γ tr (.Assign [.Subscript o i sp] value pos) (.next Γ (tr3.set m (.lst (ds.set k.toNat d)))) :=
  fun A g as s L w F => wpAny_Assign_Subscript (wpAny_mono (hv A g as s L w F) (fun v s1 p1 => by
    obtain ⟨g1, as1, G1, w1, a1⟩ := p1
    refine wpAny_mono (ho A g1 as1 s1 L w1 (F.grow G1)) (fun ov s2 p2 => ?_) fun _ _ h => h
    obtain ⟨g2, as2, G2, w2, a2⟩ := p2
    refine wpAny_mono (hi A g2 as2 s2 L w2 ((F.grow G1).grow G2)) (fun iv s3 p3 => ?_) fun _ _ h => h
    obtain ⟨g3, as3, G3, w3, a3⟩ := p3
    have b2 := G3.at_ a2
    cases a3
    cases b2 with
    | ptr hp =>
    refine wpAny_mono (setItem_loc w3 hp hm (G3.at_ (G2.at_ a1)) h0 hfit hn) (fun _ s4 p4 => ?_) fun _ _ h => h
    exact ⟨_, _, (((G1.trans G2).trans G3).trans p4.1).noW, p4.2, (((F.grow G1).grow G2).grow G3).grow p4.1⟩) fun _ _ h => h) hs

/-! a, b = .. -/
theorem Ex1_pair {x y : Str} {elts : List Expr} {k : Nat} {tp pos : Pos} {value : Expr} {d1 d2 : D} (h : Ev C n env Γ tr value tr1 (.tup [d1, d2])) (hx : Stores env x) (hy : Stores env y)
    (hs : swapsWithSole [.Tuple elts k tp] value pos.line env = pure false) (hw : swappedStores [.Tuple elts k tp] value env = pure (some [x, y])) :
    Ex1 C n env Γ tr (.Assign [.Tuple elts k tp] value pos) (.next ((x, d1) :: (y, d2) :: Γ) tr1) :=
  fun A g as s L w F => Assign_Tuple_swapped (names := [x, y]) (wpAny_mono (h A g as s L w F) (fun v s1 p1 => by
    obtain ⟨g1, as1, G1, w1, a1⟩ := p1
    cases a1 with
    | @tup a vs q _ ha hvs =>
    cases hvs with
    | @cons v1 _ vs _ a1 r =>
    cases r with
    | @cons v2 _ vs _ a2 r =>
    cases r
    show wpAny _ _ (unpackItems (.ref a) 2 none) _ _ _
    refine unpackItems_tuple (items := #[v1, v2]) L.1 ⟨_, w1.sub _ _ ha, rfl, q, rfl⟩ (fun h' hk => ?_)
    obtain ⟨w2, G2⟩ := w1.kept (s' := { s1 with heap := h' }) (fun b o e => hk b o (Nat.ne_of_lt (Heap.lt_size e)) e) rfl rfl
    show wpAny _ A (holding [v1] (bindName env y v2) >>= fun _ => holding [] (bindName env x v1) >>= fun _ => pure ()) _ _ _
    refine wpAny_bind (wpAny_holding (wpAny_bindName (wpAny_mono (store_any w2 ((F.grow G1).grow G2) a2 hy) (fun _ s3 p3 => ?_) fun _ _ h => h)))
    refine wpAny_bind (wpAny_holding (wpAny_bindName (wpAny_mono (store_any p3.2.1 p3.2.2 a1 hx) (fun _ s4 p4 => ?_) fun _ _ h => h)))
    exact wpAny_pure ⟨_, _, ((G1.trans G2).noW.trans (p3.1.wider slot_wr)).trans (p4.1.wider slot_wr), p4.2⟩) fun _ _ h => h) hs hw

/-! the fields of an object -/
def setF (x : Str) (d : D) : List (Str × D) → List (Str × D)
  | [] => [(x, d)]
  | (y, e) :: r => if y == x then (y, d) :: r else (y, e) :: setF x d r

structure ClsOk (C : Cx) (Cl : Addr) (name : Str) : Prop where
  get : plainGet C.K Cl name = true
  dict : hasDictIn C.K Cl = true
  find : findIn C.K (.ref Cl) name = some none
  sets : findIn C.K (.ref Cl) "__setattr__" = some (some (.builtin "object.__setattr__"))
  over : plainOver C.K Cl = true

theorem Flds.look {g : Im} {as : List Addr} {es : List DictEntry} {fs : List (Str × D)} (h : Flds g as es fs) {x : Str} {d : D} (e : fs.lookup x = some d) : ∃ v, getL x es = some (some v) ∧ At g as v d := by
  induction fs generalizing es with
  | nil => simp at e
  | cons p fs ih =>
    cases h with
    | @cons h y t v d0 es _ a r =>
      unfold getL
      rw [List.find?_cons]
      rw [List.lookup_cons] at e
      by_cases hxy : x = y
      · subst hxy
        simp at e; subst e
        simp [Value.isStr]
        exact a
      · have h1 : (x == y) = false := beq_eq_false_iff_ne.mpr hxy
        have h2 : (Value.str y t).isStr x = false := beq_eq_false_iff_ne.mpr (Ne.symm hxy)
        rw [h1] at e
        obtain ⟨u, hu, au⟩ := ih r e
        refine ⟨u, ?_, au⟩
        simp only [h2]
        unfold getL at hu
        cases hf : List.find? (fun x_1 => x_1.key.isStr x) es with
        | some en => rw [hf] at hu; exact hu
        | none =>
          rw [hf] at hu
          simp only at hu
          split at hu <;> cases hu
theorem Flds.put {g : Im} {as : List Addr} {es : List DictEntry} {fs : List (Str × D)} (h : Flds g as es fs) {x : Str} {d : D} {v : Value} {hs : Int} {t : Tok} (a : At g as v d) : Flds g as (putL x hs (.str x t) v es) (setF x d fs) := by
  induction fs generalizing es with
  | nil => cases h; exact .cons a .nil
  | cons p fs ih =>
    cases h with
    | @cons h y t v d0 es _ a0 r =>
      unfold putL setF
      by_cases hxy : y = x
      · subst hxy; simp [Value.isStr]; exact .cons a r
      · have h1 : (y == x) = false := beq_eq_false_iff_ne.mpr hxy
        have h2 : (Value.str y t).isStr x = false := h1
        simp only [h1, h2, Bool.false_eq_true, if_false]
        exact .cons a0 (ih r)
theorem Flds.noRef {g : Im} {as : List Addr} {es : List DictEntry} {fs : List (Str × D)} (h : Flds g as es fs) : es.any (·.refKey) = false := by
  induction fs generalizing es with
  | nil => cases h; rfl
  | cons p fs ih => cases h with | cons a r => rw [List.any_cons, ih r]; rfl
theorem Flds.getSome {g : Im} {as : List Addr} {es : List DictEntry} {fs : List (Str × D)} (h : Flds g as es fs) (x : Str) : (getL x es).isSome = true := by
  unfold getL
  split
  · rfl
  · rw [h.noRef]; rfl
theorem Flds.length {g : Im} {as : List Addr} {es : List DictEntry} {fs : List (Str × D)} (h : Flds g as es fs) : es.length = fs.length := by
  induction fs generalizing es with
  | nil => cases h; rfl
  | cons p fs ih => cases h with | cons a r => simp [ih r]

def fieldOf (tr : List MObj) (x : Str) : D → Option D
  | .inst _ m => match tr[m]? with
    | some (.dct fs) => fs.lookup x
    | _ => Option.none
  | .obj _ fs => fs.lookup x
  | _ => Option.none
def clsOf : D → Option Addr
  | .inst c _ => some c
  | .obj c _ => some c
  | _ => Option.none

theorem Ev_attr {o : Expr} {x : Str} {pos : Pos} {dv d : D} {Cl : Addr} (ho : Ev C n env Γ tr o tr1 dv) (hc : clsOf dv = some Cl) (hd : fieldOf tr1 x dv = some d) (K : ClsOk C Cl x) (hr : ∀ v, d ≠ .raw v)
    (he : eval (.Attribute o x pos) env = (do
      let ov ← eval o env
      standAt pos.atName
      let r ← holding [ov] (getAttr ov x true)
      letTemporaryGo o ov r
      pure r)) : Ev C n env Γ tr (.Attribute o x pos) tr1 d :=
  fun A g as s L w F => Attribute_any_ (wpAny_mono (ho A g as s L w F) (fun ov s1 p1 => by
    obtain ⟨g1, as1, G1, w1, a1⟩ := p1
    have key : ∀ {a dx : Addr} {es : List DictEntry} {q : Nat} {fs : List (Str × D)}, g1 a = some (instObj Cl dx) → s1.heap.get? dx = some (dictOf es q) → Flds g1 as1 es fs → fs.lookup x = some d →
        wpAny (model C.prog C.w) A (getAttr (.ref a) x true) (Post C noW g as s tr1 d) noE s1 := fun {a dx es q fs} ha hdx hf hl => by
      obtain ⟨v, hv, av⟩ := hf.look hl
      have X : C.K.In s1.heap := w1.ok.kin.keeps w1.kept0
      refine get_value X (od := some (dictOf es q)) ⟨w1.sub _ _ ha, rfl, rfl, hdx⟩ (plainGet_of K.get).1 (findObj_own K.dict K.find rfl (by rw [lookIn_dict]; exact hv)) (by cases av <;> first | rfl | exact absurd rfl (hr _)) (Post.step G1 (w1.postT _ av))
    cases a1 with
    | inst ha hm =>
      simp only [clsOf, Option.some.injEq] at hc; subst hc
      simp only [fieldOf] at hd
      split at hd
      · rename_i fs e
        obtain ⟨_, es, q, e', hf⟩ := w1.dctAt hm e
        exact key ha e' hf hd
      · cases hd
    | obj ha hdx hf =>
      simp only [clsOf, Option.some.injEq] at hc; subst hc
      exact key ha (w1.sub _ _ hdx) hf hd
    | _ => simp [clsOf] at hc) fun _ _ h => h) he

/-- o.x = v -/
theorem setattr_loc {A : Around} {g : Im} {as : List Addr} {s : Shared} {a dx Cl : Addr} {m : Nat} {fs : List (Str × D)} {v : Value} {d : D} {x : Str} (w : W C g as tr s) (ha : g a = some (instObj Cl dx)) (hp : as[m]? = some dx) (hm : tr[m]? = some (.dct fs)) (hv : At g as v d)
    (K : ClsOk C Cl x) (hz : fs.length ≤ 500) :
    wpAny (model C.prog C.w) A (setAttr (.ref a) x v) (fun _ s' => Grow noW g as s g as s' ∧ W C g as (tr.set m (.dct (setF x d fs))) s') noE s := by
  obtain ⟨gn, es, q, e, hf⟩ := w.dctAt hp hm
  have X : C.K.In s.heap := w.ok.kin.keeps w.kept0
  have I : InstAt s.heap a (instObj Cl dx) Cl (some (dictOf es q)) := ⟨w.sub _ _ ha, rfl, rfl, e⟩
  have X1 : C.K.In ({ s with toks := s.toks + 1 } : Shared).heap := X
  refine set_plain X I K.sets ?_
  refine osa_open (s := { s with toks := s.toks + 1 }) (r := none) X I K.over (by unfold takerIn; rw [K.find]; rfl) fun b => ?_
  obtain ⟨cd, hc, hd'⟩ := any_some (show (clsIn C.K Cl).any (·.hasDict) = true from K.dict)
  refine wpAny_bind (wpAny_pure (wpAny_bind (wpAny_bind (wpAny_loadPart (o := instObj Cl dx) (w.sub _ _ ha) (wpAny_bind ((looks_clsIn X1 hc).here ?_))))))
  rw [hd']
  refine wpAny_pure (a := some dx) (wpAny_bind (wpAny_pure (wpAny_bind ?_)))
  unfold nsSet
  refine wpAny_bind (wpAny_bind (wpAny_askSetting (wpAny_pure (wpAny_bind (wpAny_mkText (wpAny_bind (wpAny_loadPart e ?_)))))))
  have c : (!es.toArray.any (·.key.isStr x) && es.toArray.any (·.refKey)) = false := by
    rw [← Array.any_toList, ← Array.any_toList]
    rw [show es.toArray.toList = es from rfl, hf.noRef, Bool.and_false]
  dsimp only [dictOf]
  rw [aRefKeyMayBeTheName_at, c]
  refine wpAny_updatePart e ?_
  have hput := putName_dict x (PyData.keyHash C.w.params x) (.str x (s.toks + 1)) v es q
  have D' : (s.heap.update dx (Obj.putName x (PyData.keyHash C.w.params x) (.str x (s.toks + 1)) v)).get? dx = some (dictOf (putL x (PyData.keyHash C.w.params x) (.str x (s.toks + 1)) v es) (putN x es q)) := by
    rw [Heap.get?_update_self _ e (by rw [hput]; rfl), hput]
  have hlen : (putL x (PyData.keyHash C.w.params x) (.str x (s.toks + 1)) v es).length ≤ 600 := by
    have h1 := (hf.put (x := x) (hs := PyData.keyHash C.w.params x) (t := s.toks + 1) hv).length
    have h2 : (setF x d fs).length ≤ fs.length + 1 := by
      clear h1 hz hm hf
      induction fs with
      | nil => simp [setF]
      | cons p r ih => unfold setF; split <;> simp; omega
    omega
  obtain ⟨w2, G2⟩ := w.turn (s' := { s with heap := s.heap.update dx (Obj.putName x (PyData.keyHash C.w.params x) (.str x (s.toks + 1)) v), toks := s.toks + 1 + 1 }) (m := .dct (setF x d fs)) hp (fun b hb => (Heap.SameBut.update ..).2 b hb) gn ⟨gn, _, _, D', hf.put hv⟩ rfl rfl
  refine wpAny_bind (wpAny_lookBehind D' (pastItsLine_dict (by rw [List.size_toArray, sizeLine_eq]; omega)) ?_)
  exact wpAny_pure ⟨G2, w2⟩
end

section
variable {C : Cx} {n : Nat} {env : Env} {Γ : List (Str × D)} {tr tr1 tr2 tr3 : List MObj}

theorem Ex1_setattr {o value : Expr} {x : Str} {ap pos : Pos} {m : Nat} {fs : List (Str × D)} {d : D} {Cl : Addr} (hv : Ev C n env Γ tr value tr1 d) (ho : Ev C n env Γ tr1 o tr2 (.inst Cl m)) (hm : tr2[m]? = some (.dct fs))
    (K : ClsOk C Cl x) (hz : fs.length ≤ 500) (hs : swapsWith value (some (.Attribute o x ap)) pos.line env = pure false) :
    Ex1 C n env Γ tr (.Assign [.Attribute o x ap] value pos) (.next Γ (tr2.set m (.dct (setF x d fs)))) :=
  fun A g as s L w F => plainObj_wpAny_Assign_Attribute (wpAny_mono (hv A g as s L w F) (fun v s1 p1 => by
    obtain ⟨g1, as1, G1, w1, a1⟩ := p1
    refine wpAny_mono (ho A g1 as1 s1 L w1 (F.grow G1)) (fun ov s2 p2 => ?_) fun _ _ h => h
    obtain ⟨g2, as2, G2, w2, a2⟩ := p2
    cases a2 with
    | inst ha hp =>
    refine wpAny_mono (setattr_loc w2 ha hp hm (G2.at_ a1) K hz) (fun _ s4 p4 => ?_) fun _ _ h => h
    exact ⟨_, _, ((G1.trans G2).trans p4.1).noW, p4.2, (((F.grow G1).grow G2)).grow p4.1⟩) fun _ _ h => h) hs

/-! iteration -/
def range' (a c : Int) : Nat → List Int
  | 0 => []
  | k + 1 => a :: range' (a + c) c k
theorem range'_get (a c : Int) (k i : Nat) (h : i < k) : (range' a c k)[i]? = some (a + i * c) := by
  induction k generalizing a i with
  | zero => omega
  | succ k ih =>
    unfold range'
    cases i with
    | zero => simp
    | succ i => rw [List.getElem?_cons_succ, ih _ _ (by omega)]; congr 1; push_cast; rw [Int.add_mul]; omega
theorem range'_length (a c : Int) (k : Nat) : (range' a c k).length = k := by
  induction k generalizing a with
  | zero => rfl
  | succ k ih => simp [range', ih]

/-- what is iterated over -/
def Src (d : D) (ds : List D) : Prop := d = .lst ds ∨ ∃ a b c : Int, d = .rng a b c ∧ ds = (range' a c (Builtin.Range.rangeSize a b c).toNat).map .int ∧ 0 ≤ Builtin.Range.rangeSize a b c ∧ Builtin.Range.small a b c = true

theorem iter_src {A : Around} {g : Im} {as : List Addr} {s : Shared} {v : Value} {d : D} {ds : List D} (L : Lv n A) (w : W C g as tr s) (a : At g as v d) (h : Src d ds) :
    wpAny (model C.prog C.w) A (pyIter v) (fun it s' => ∃ I fp wr St, it = .ref I ∧ Walks C.prog C.w A I fp wr ds.length (fun i v => ∃ x, ds[i]? = some x ∧ At g as v x) St ∧ St 0 s'.heap ∧
      (∀ b o, s.heap.get? b = some o → s'.heap.get? b = some o) ∧ s'.os = s.os ∧ s'.gens = s.gens ∧ (∀ b ∈ wr, s.heap.get? b = none ∧ ∃ o, s'.heap.get? b = some o) ∧ (∀ b ∈ fp, b ∈ wr ∨ ∃ o, g b = some o) ∧ (∀ i h, St i h → ∀ b ∈ wr, ∃ o, h.get? b = some o)) noE s := by
  rcases h with rfl | ⟨x, y, z, rfl, rfl, h0, hsm⟩
  · cases a with
    | @lst a vs q _ ha hvs =>
    refine wpAny_pyIter_list (items := vs.toArray) ⟨_, w.sub _ _ ha, rfl, q, rfl⟩ ?_
    have hne : a ≠ s.heap.objs.size := Nat.ne_of_lt (Heap.lt_size (w.sub _ _ ha))
    refine ⟨s.heap.objs.size, [s.heap.objs.size, a], [s.heap.objs.size], fun i h => h.IsListIter s.heap.objs.size a i ∧ h.IsList a vs.toArray, rfl, ?_, ⟨⟨_, Heap.get?_push_size _ rfl, rfl, rfl⟩, ⟨_, Heap.get?_push_of_some _ (w.sub _ _ ha), rfl, q, rfl⟩⟩, fun b o e => Heap.get?_push_of_some _ e, rfl, rfl, ?_, ?_, ?_⟩
    · have W0 := Walks.list (prog := C.prog) (w := C.w) (A := A) L.1 s.heap.objs.size a hne vs.toArray
      have hsz : vs.toArray.size = ds.length := by rw [List.size_toArray]; exact hvs.length
      rw [hsz] at W0
      refine ⟨W0.sub, W0.frame, fun i s' Q E hi st hQ => W0.item i s' Q E hi st (fun v h' tk hv st' k => hQ v h' tk ?_ st' k), W0.done, W0.self⟩
      obtain ⟨u, hu, au⟩ := hvs.get (List.getElem?_eq_getElem hi)
      have : vs.toArray[i]? = some u := by simpa using hu
      rw [this] at hv; cases hv
      exact ⟨_, List.getElem?_eq_getElem hi, au⟩
    · intro b hb
      rw [List.mem_singleton.mp hb]
      exact ⟨Heap.get?_none_of_le (Nat.le_refl _), _, Heap.get?_push_size _ rfl⟩
    · intro b hb
      rcases List.mem_cons.mp hb with rfl | hb
      · exact .inl (by simp)
      · rw [List.mem_singleton.mp hb]; exact .inr ⟨_, ha⟩
    · intro i h hst b hb
      rw [List.mem_singleton.mp hb]
      obtain ⟨⟨o, ho, _⟩, _⟩ := hst
      exact ⟨o, ho⟩
  · cases a with
    | @rng a x y z t u v ha =>
    refine wpAny_pyIter_range (w.sub _ _ ha) hsm ?_
    refine ⟨s.heap.objs.size, [s.heap.objs.size], [s.heap.objs.size], fun i h => IsRangeIter h s.heap.objs.size (x + (i : Nat) * z) (((Builtin.Range.rangeSize x y z).toNat : Int) - (i : Nat)) z, rfl, ?_, ?_, fun b o e => Heap.get?_push_of_some _ e, rfl, rfl, ?_, ?_, ?_⟩
    · have W0 := Walks.range (prog := C.prog) (w := C.w) (A := A) L.1 s.heap.objs.size x z (Builtin.Range.rangeSize x y z).toNat
      rw [List.length_map, range'_length]
      refine ⟨W0.sub, W0.frame, fun i s' Q E hi st hQ => W0.item i s' Q E hi st (fun v h' tk hv st' k => hQ v h' tk ?_ st' k), W0.done, W0.self⟩
      obtain ⟨t', rfl⟩ := hv
      exact ⟨.int (x + i * z), by rw [List.getElem?_map, range'_get _ _ _ _ hi]; rfl, .int _ _⟩
    · show IsRangeIter _ _ _ _ _
      have e1 : x + ((0 : Nat) : Int) * z = x := by simp
      have e2 : ((Builtin.Range.rangeSize x y z).toNat : Int) - ((0 : Nat) : Int) = Builtin.Range.rangeSize x y z := by simp; omega
      rw [e1, e2]
      exact Heap.get?_push_size _ rfl
    · intro b hb
      rw [List.mem_singleton.mp hb]
      exact ⟨Heap.get?_none_of_le (Nat.le_refl _), _, Heap.get?_push_size _ rfl⟩
    · intro b hb
      rw [List.mem_singleton.mp hb]; exact .inl (by simp)
    · intro i h hst b hb
      rw [List.mem_singleton.mp hb]
      exact ⟨_, hst⟩

/-- the state of a loop: what is grown since s0 (the iterator is newer than s0) -/
structure LoopAt (C : Cx) (wr0 : Addr → Prop) (g0 : Im) (as0 : List Addr) (s0 : Shared) (fp wr : List Addr) (St : Nat → Heap → Prop) (k : Nat) (g : Im) (as : List Addr) (tr : List MObj) (s : Shared) : Prop where
  w : W C g as tr s
  grow : Grow wr0 g0 as0 s0 g as s
  st : St k s.heap
  new : ∀ b ∈ wr, s0.heap.get? b = none ∧ (∃ o, s.heap.get? b = some o) ∧ g b = none ∧ b ∉ as ∧ ¬ wr0 b
  fp : ∀ b ∈ fp, b ∈ wr ∨ ∃ o, g b = some o

theorem LoopAt.next {wr0 : Addr → Prop} {g0 g : Im} {as0 as : List Addr} {s0 s : Shared} {fp wr : List Addr} {St : Nat → Heap → Prop} {k k' : Nat} {h' : Heap} {tk : Nat} (X : LoopAt C wr0 g0 as0 s0 fp wr St k g as tr s)
    (st : St k' h') (keep : ∀ b o, b ∉ wr → s.heap.get? b = some o → h'.get? b = some o) (alive : ∀ b ∈ wr, ∃ o, h'.get? b = some o) :
    LoopAt C wr0 g0 as0 s0 fp wr St k' g as tr { s with heap := h', toks := tk } := by
  have ng : ∀ b o, g b = some o → b ∉ wr := fun b o e hb => by rw [(X.new b hb).2.2.1] at e; cases e
  have na : ∀ b, b ∈ as → b ∉ wr := fun b hb hw => (X.new b hw).2.2.2.1 hb
  refine ⟨⟨X.w.ok, X.w.base, fun b o e => keep b o (ng b o e) (X.w.sub b o e), X.w.os, X.w.gens, X.w.nod, X.w.len, fun i b m hb hm => ?_⟩, ⟨X.grow.sub, X.grow.pre, fun b o hb hw e => ?_, fun b o e => ?_, X.grow.fresh, X.grow.newas⟩, st, fun b hb => ?_, X.fp⟩
  · have := (X.w.mob i b m hb hm).kept (h' := h') (l := []) (Sub.refl g) (fun o e => keep b o (na b (List.mem_of_getElem? hb)) e) id
    simpa using this
  · exact keep b o (fun hw => by rw [(X.new b hw).1] at e; cases e) (X.grow.keep b o hb hw e)
  · obtain ⟨o', e'⟩ := X.grow.alive b o e
    exact ⟨o', keep b o' (fun hw => by rw [(X.new b hw).1] at e; cases e) e'⟩
  · have := X.new b hb
    exact ⟨this.1, alive b hb, this.2.2⟩

/-- behind the last turn -/
theorem LoopAt.out {wr0 : Addr → Prop} {g0 g : Im} {as0 as : List Addr} {s0 s : Shared} {fp wr : List Addr} {St : Nat → Heap → Prop} {k : Nat} {h' : Heap} {tk : Nat} (X : LoopAt C wr0 g0 as0 s0 fp wr St k g as tr s)
    (keep : ∀ b o, b ∉ wr → s.heap.get? b = some o → h'.get? b = some o) : W C g as tr { s with heap := h', toks := tk } ∧ Grow wr0 g0 as0 s0 g as { s with heap := h', toks := tk } := by
  have ng : ∀ b o, g b = some o → b ∉ wr := fun b o e hb => by rw [(X.new b hb).2.2.1] at e; cases e
  have na : ∀ b, b ∈ as → b ∉ wr := fun b hb hw => (X.new b hw).2.2.2.1 hb
  refine ⟨⟨X.w.ok, X.w.base, fun b o e => keep b o (ng b o e) (X.w.sub b o e), X.w.os, X.w.gens, X.w.nod, X.w.len, fun i b m hb hm => ?_⟩, ⟨X.grow.sub, X.grow.pre, fun b o hb hw e => ?_, fun b o e => ?_, X.grow.fresh, X.grow.newas⟩⟩
  · have := (X.w.mob i b m hb hm).kept (h' := h') (l := []) (Sub.refl g) (fun o e => keep b o (na b (List.mem_of_getElem? hb)) e) id
    simpa using this
  · exact keep b o (fun hw => by rw [(X.new b hw).1] at e; cases e) (X.grow.keep b o hb hw e)
  · obtain ⟨o', e'⟩ := X.grow.alive b o e
    exact ⟨o', keep b o' (fun hw => by rw [(X.new b hw).1] at e; cases e) e'⟩

theorem Fm.past {g : Im} {as : List Addr} {h h' : Heap} {wr : List Addr} (F : Fm env g as Γ h) (keep : ∀ b o, b ∉ wr → h.get? b = some o → h'.get? b = some o) (hn : ∀ b ∈ wr, ¬ wrOf env b) : Fm env g as Γ h' := by
  obtain ⟨m, hns, hm⟩ := F.ns
  refine ⟨F.kind, F.glob, F.blt, ⟨m, ns_at hns fun o e => keep _ o (fun hb => hn _ hb (.inl rfl)) e, hm⟩, F.lfree, fun y c hy => ?_, fun y d hy hk => ?_, F.apart⟩
  · obtain ⟨h1, h2, h3, v, o, ho, hd⟩ := F.cfree y c hy
    exact ⟨h1, h2, h3, v, o, keep _ o (fun hb => hn _ hb (.inr ⟨y, hy⟩)) ho, hd⟩
  · obtain ⟨c, v, hc, ⟨o, ho, hd⟩, ha⟩ := F.cell y d hy hk
    exact ⟨c, v, hc, ⟨o, keep _ o (fun hb => hn _ hb (.inr ⟨y, hc⟩)) ho, hd⟩, ha⟩

theorem LoopAt.body2 {wr0 wr1 : Addr → Prop} {g0 g g' : Im} {as0 as as' : List Addr} {s0 s s' : Shared} {fp wr : List Addr} {St : Nat → Heap → Prop} {k : Nat} {PP : Nat → Value → Prop} {A : Around} {I : Addr} {N : Nat} {wi : List Addr} (X : LoopAt C wr0 g0 as0 s0 fp wr St k g as tr s)
    (Wk : Walks C.prog C.w A I fp wi N PP St) (G : Grow wr1 g as s g' as' s') (w : W C g' as' tr1 s') (h1 : ∀ b, wr1 b → wr0 b ∨ b ∈ wr) (h2 : ∀ b ∈ fp, b ∈ wr → ¬ wr1 b) : LoopAt C wr0 g0 as0 s0 fp wr St k g' as' tr1 s' := by
  have nw : ∀ b ∈ wr, g' b = none ∧ b ∉ as' := fun b hb => by
    obtain ⟨_, ⟨o, ho⟩, n2, n3, _⟩ := X.new b hb
    refine ⟨?_, fun hm => ?_⟩
    · cases e : g' b with
      | none => rfl
      | some o' => have := G.fresh b o' e n2 n3; rw [ho] at this; cases this
    · have := G.newas b hm n3; rw [ho] at this; cases this
  have G1 : Grow wr0 g0 as0 s0 g' as' s' := by
    have T := (X.grow.wider (wr' := fun b => wr0 b ∨ b ∈ wr) fun b h => .inl h).trans (G.wider h1)
    refine ⟨T.sub, T.pre, fun b o hb hw e => T.keep b o hb (fun h => h.elim hw fun h => ?_) e, T.alive, T.fresh, T.newas⟩
    rw [(X.new b h).1] at e; cases e
  refine ⟨w, G1, Wk.frame k _ _ X.st fun b hb o e => ?_, fun b hb => ?_, fun b hb => (X.fp b hb).imp id fun ⟨o, e⟩ => ⟨o, G.sub b o e⟩⟩
  · rcases X.fp b hb with hw | ⟨o', e'⟩
    · obtain ⟨_, _, n2, n3, n4⟩ := X.new b hw
      exact G.keep b o n3 (h2 b hb hw) e
    · have := X.w.sub b o' e'
      rw [e] at this; cases this
      exact w.sub b o (G.sub b o e')
  · obtain ⟨n1, ⟨o, ho⟩, n2, n3, n4⟩ := X.new b hb
    exact ⟨n1, G.alive b o ho, (nw b hb).1, (nw b hb).2, n4⟩
theorem LoopAt.body {wr0 wr1 : Addr → Prop} {g0 g g' : Im} {as0 as as' : List Addr} {s0 s s' : Shared} {fp wr : List Addr} {St : Nat → Heap → Prop} {k : Nat} {PP : Nat → Value → Prop} {A : Around} {I : Addr} {N : Nat} {wi : List Addr} (X : LoopAt C wr0 g0 as0 s0 fp wr St k g as tr s)
    (Wk : Walks C.prog C.w A I fp wi N PP St) (G : Grow wr1 g as s g' as' s') (w : W C g' as' tr1 s') (h1 : ∀ b, wr1 b → wr0 b) : LoopAt C wr0 g0 as0 s0 fp wr St k g' as' tr1 s' :=
  X.body2 Wk G w (fun b h => .inl (h1 b h)) fun b _ hw h => (X.new b hw).2.2.2.2 (h1 b h)

theorem Ex1_for {x : Str} {xp pos : Pos} {iter : Expr} {body : List Stmt} {d : D} {ds : List D} (hi : Ev C n env Γ tr iter tr1 d) (hsrc : Src d ds) (Γs : Nat → List (Str × D)) (trs : Nat → List MObj)
    (h0 : trs 0 = tr1) (g0 : ∀ y e, (Γs 0).lookup y = some e → Γ.lookup y = some e)
    (step : ∀ k e, ds[k]? = some e → Ex C n env ((x, e) :: Γs k) (trs k) body (.next (Γs (k + 1)) (trs (k + 1)))) (hk : Stores env x)
    (hs : ∀ v, foldedSetIterable iter env v = pure v) :
    Ex1 C n env Γ tr (.For (.Name x xp) iter body [] pos) (.next (Γs ds.length) (trs ds.length)) :=
  fun A g as s L w F => wpAny_For (wpAny_mono (hi A g as s L w F) (fun v s1 p1 => by
    obtain ⟨g1, as1, G1, w1, a1⟩ := p1
    subst h0
    refine wpAny_mono (iter_src L w1 a1 hsrc) (fun it s2 p2 => ?_) fun _ _ h => h
    obtain ⟨I, fp, wr, St, rfl, Wk, st, kp, ho, hg, hwr, hfp, hal⟩ := p2
    obtain ⟨w2, G2⟩ := w1.kept kp ho hg
    have F1 := F.grow G1
    have F2 := F1.grow G2
    have X0 : LoopAt C (wrOf env) g1 as1 s1 fp wr St 0 g1 as1 (trs 0) s2 := ⟨w2, G2.noW, st, fun b hb => ⟨(hwr b hb).1, (hwr b hb).2, w1.gnone (hwr b hb).1, w1.notin (hwr b hb).1, fun hq => by
      rcases hq with rfl | ⟨y, hy⟩
      · obtain ⟨m, hn, _⟩ := F1.ns
        obtain ⟨o, e⟩ := ns_some hn
        rw [(hwr _ hb).1] at e; cases e
      · obtain ⟨_, _, _, u, o, e, _⟩ := F1.cfree y b hy
        rw [(hwr _ hb).1] at e; cases e⟩, hfp⟩
    refine codeAny_mono (codeAny_forLoop (R := fun r s' => ∃ f, r = .ok f ∧ OutP C env g1 as1 s1 (.next (Γs ds.length) (trs ds.length)) f s')
      (fun j s' => ∃ k g' as', k ≤ ds.length ∧ j = ds.length - k ∧ LoopAt C (wrOf env) g1 as1 s1 fp wr St k g' as' (trs k) s' ∧ Fm env g' as' (Γs k) s'.heap) (fun j s' hI => ?_) ds.length ⟨0, g1, as1, Nat.zero_le _, rfl, X0, F2.weaken g0⟩) (fun r s' hr => ?_)
    · obtain ⟨k, g', as', hkl, rfl, X, Fk⟩ := hI
      by_cases hlt : k < ds.length
      · refine Wk.item k s' _ _ hlt X.st fun v h' tk hv st' kp' => ?_
        obtain ⟨e, he, av⟩ := hv
        have X' := X.next (tk := tk) st' kp' (hal _ _ st')
        obtain ⟨l, rfl⟩ := X.grow.pre
        have Fk' : Fm env g' (as1 ++ l) (Γs k) ({ s' with heap := h', toks := tk } : Shared).heap := Fk.past kp' fun b hb => (X.new b hb).2.2.2.2
        refine PySem.wpAny_assign_Name (wpAny_mono (store_any X'.w Fk' (av.mono X.grow.sub) hk) (fun _ s3 p3 => ?_) fun _ _ h => h.elim)
        refine wpAny_mono (step k e he A _ _ s3 L p3.2.1 p3.2.2) (fun f s4 p4 => ?_) fun _ _ h => h.elim
        obtain ⟨g4, as4, G4, r4⟩ := p4
        cases f <;> first | exact r4.elim | skip
        refine ⟨ds.length - (k + 1), by omega, k + 1, g4, as4, hlt, rfl, ?_, r4.2⟩
        exact (X'.body Wk (p3.1.wider slot_wr) p3.2.1 fun _ h => h).body Wk G4 r4.1 fun _ h => h
      · have : k = ds.length := by omega
        subst this
        refine Wk.done s' _ _ X.st fun h' tk kp' => wpAny_execs_nil ?_
        obtain ⟨wo, Go⟩ := X.out (tk := tk) kp'
        exact ⟨_, rfl, g', as', Go, wo, Fk.past kp' fun b hb => (X.new b hb).2.2.2.2⟩
    · obtain ⟨f, rfl, hO⟩ := hr
      exact hO.step G1.noW) fun _ _ h => h) hs

theorem Ex1_while {test : Expr} {body : List Stmt} {pos : Pos} (N : Nat) (Γs : Nat → List (Str × D)) (trs : Nat → List MObj)
    (h0 : trs 0 = tr) (g0 : ∀ y e, (Γs 0).lookup y = some e → Γ.lookup y = some e)
    (ht : ∀ k, k < N → Tt C n env (Γs k) (trs k) test (trs k) true) (hf : Tt C n env (Γs N) (trs N) test (trs N) false)
    (step : ∀ k, k < N → Ex C n env (Γs k) (trs k) body (.next (Γs (k + 1)) (trs (k + 1)))) :
    Ex1 C n env Γ tr (.While test body [] pos) (.next (Γs N) (trs N)) :=
  fun A g as s L w F => wpAny_While (by
    subst h0
    refine codeAny_mono (codeAny_whileLoop (R := fun r s' => ∃ f, r = .ok f ∧ OutP C env g as s (.next (Γs N) (trs N)) f s')
      (fun j s' => ∃ k g' as', k ≤ N ∧ j = N - k ∧ Grow (wrOf env) g as s g' as' s' ∧ W C g' as' (trs k) s' ∧ Fm env g' as' (Γs k) s'.heap) (fun j s' hI => ?_) N ⟨0, g, as, Nat.zero_le _, rfl, Grow.refl _ _ _ _, w, F.weaken g0⟩) (fun r s' hr => ?_)
    · obtain ⟨k, g', as', hkl, rfl, G, wk, Fk⟩ := hI
      by_cases hlt : k < N
      · refine wpAny_mono (ht k hlt A g' as' s' L wk Fk) (fun b s1 p1 => ?_) fun _ _ h => h.elim
        obtain ⟨rfl, g1, as1, G1, w1⟩ := p1
        simp only [if_true]
        refine wpAny_mono (step k hlt A g1 as1 s1 L w1 (Fk.grow G1)) (fun f s2 p2 => ?_) fun _ _ h => h.elim
        obtain ⟨g2, as2, G2, r2⟩ := p2
        cases f <;> first | exact r2.elim | skip
        exact ⟨N - (k + 1), by omega, k + 1, g2, as2, hlt, rfl, (G.trans G1.noW).trans G2, r2.1, r2.2⟩
      · have : k = N := by omega
        subst this
        refine wpAny_mono (hf A g' as' s' L wk Fk) (fun b s1 p1 => ?_) fun _ _ h => h.elim
        obtain ⟨rfl, g1, as1, G1, w1⟩ := p1
        simp only [Bool.false_eq_true, if_false]
        exact wpAny_execs_nil ⟨_, rfl, g1, as1, G.trans G1.noW, w1, Fk.grow G1⟩
    · obtain ⟨f, rfl, hO⟩ := hr
      exact hO)
end


/-! closures, cells of a block -/
def clos (env : Env) : List (Str × NameKind) → List (Str × Addr) → List (Str × Addr)
  | [], cs => cs
  | (x, k) :: r, cs => if k == .free then (match env.cells.lookup x with | some a => clos env r ((x, a) :: cs) | none => clos env r cs) else clos env r cs

theorem closureFor_clos {env : Env} {scope : Scope} (h : ∀ p ∈ scope.names, p.2 = .free → (env.cells.lookup p.1).isSome = true) : closureFor scope env = pure (clos env scope.names []) := by
  unfold closureFor
  have gen : ∀ (names : List (Str × NameKind)) (cs : List (Str × Addr)), (∀ p ∈ names, p.2 = .free → (env.cells.lookup p.1).isSome = true) →
      (forIn names cs fun x r => (if (x.2 == NameKind.free) = true then do
          let __do_lift ← cellOf env x.1
          pure (ForInStep.yield ((x.1, __do_lift) :: r))
        else pure (ForInStep.yield r) : Sem (ForInStep (List (Str × Addr))))) = pure (clos env names cs) := by
    intro names
    induction names with
    | nil => intro cs _; rfl
    | cons p r ih =>
      intro cs hh
      obtain ⟨x, k⟩ := p
      rw [List.forIn_cons]
      unfold clos
      by_cases hk : k = .free
      · subst hk
        obtain ⟨a, ha⟩ := Option.isSome_iff_exists.mp (hh (x, .free) (.head _) rfl)
        simp only [beq_self_eq_true, if_true]
        unfold cellOf
        simp only [ha]
        exact ih _ fun p hp => hh p (.tail _ hp)
      · have : (k == NameKind.free) = false := beq_eq_false_iff_ne.mpr hk
        simp only [this, Bool.false_eq_true, if_false]
        exact ih _ fun p hp => hh p (.tail _ hp)
  exact congrArg (fun m => m >>= fun r => pure r) (gen scope.names [] h)

theorem clos_mem {env : Env} : ∀ (names : List (Str × NameKind)) (cs : List (Str × Addr)) (x : Str) (c : Addr), (x, c) ∈ clos env names cs → (x, c) ∈ cs ∨ env.cells.lookup x = some c
  | [], cs, x, c, h => .inl h
  | (y, k) :: r, cs, x, c, h => by
    unfold clos at h
    split at h
    · split at h
      · rename_i a ha
        rcases clos_mem r _ x c h with h | h
        · rcases List.mem_cons.mp h with h | h
          · cases h; exact .inr ha
          · exact .inl h
        · exact .inr h
      · exact clos_mem r _ x c h
    · exact clos_mem r _ x c h
theorem clos_has {env : Env} : ∀ (names : List (Str × NameKind)) (cs : List (Str × Addr)) (x : Str), ((∃ c, (x, c) ∈ cs) ∨ ((x, NameKind.free) ∈ names ∧ (env.cells.lookup x).isSome = true)) → ∃ c, (x, c) ∈ clos env names cs
  | [], cs, x, h => h.elim id fun h => nomatch h.1
  | (y, k) :: r, cs, x, h => by
    unfold clos
    split
    · split
      · rename_i a ha
        refine clos_has r _ x ?_
        rcases h with ⟨c, h⟩ | ⟨h, hs⟩
        · exact .inl ⟨c, .tail _ h⟩
        · rcases List.mem_cons.mp h with h | h
          · cases h; exact .inl ⟨a, .head _⟩
          · exact .inr ⟨h, hs⟩
      · rename_i ha
        refine clos_has r _ x ?_
        rcases h with ⟨c, h⟩ | ⟨h, hs⟩
        · exact .inl ⟨c, h⟩
        · rcases List.mem_cons.mp h with h | h
          · cases h; rw [ha] at hs; cases hs
          · exact .inr ⟨h, hs⟩
    · rename_i hk
      refine clos_has r _ x ?_
      rcases h with ⟨c, h⟩ | ⟨h, hs⟩
      · exact .inl ⟨c, h⟩
      · rcases List.mem_cons.mp h with h | h
        · cases h; exact absurd rfl hk
        · exact .inr ⟨h, hs⟩

theorem cellsFrom_append : ∀ (names : List (Str × NameKind)) (n : Nat) (acc : List (Str × Addr)), cellsFrom n names acc = cellsFrom n names [] ++ acc
  | [], n, acc => rfl
  | (x, k) :: r, n, acc => by
    unfold cellsFrom
    split
    · rw [cellsFrom_append r _ ((x, n) :: acc), cellsFrom_append r _ [(x, n)]]; simp
    · exact cellsFrom_append r n acc
theorem cellsFrom_kind : ∀ (names : List (Str × NameKind)) (n : Nat) (x : Str) (c : Addr), (x, c) ∈ cellsFrom n names [] → (x, NameKind.cell) ∈ names
  | [], n, x, c, h => nomatch h
  | (y, k) :: r, n, x, c, h => by
    unfold cellsFrom at h
    split at h
    · rename_i hk
      rw [cellsFrom_append] at h
      rcases List.mem_append.mp h with h | h
      · exact .tail _ (cellsFrom_kind r _ x c h)
      · simp at h; obtain ⟨rfl, _⟩ := h; rw [beq_iff_eq.mp hk]; exact .head _
    · exact .tail _ (cellsFrom_kind r _ x c h)

theorem lookup_none_of {α : Type} {l : List (Str × α)} {x : Str} (h : ∀ c, (x, c) ∉ l) : l.lookup x = none := by
  cases e : l.lookup x with
  | none => rfl
  | some c => exact absurd (mem_of_lookup e) (h c)
theorem lookup_some_of {α : Type} {l : List (Str × α)} {x : Str} {c : α} (h : (x, c) ∈ l) : ∃ c', l.lookup x = some c' := by
  induction l with
  | nil => cases h
  | cons p r ih =>
    rw [List.lookup_cons]
    rcases List.mem_cons.mp h with h | h
    · subst h; simp
    · cases hb : x == p.1 with
      | true => exact ⟨_, rfl⟩
      | false => exact ih h

/-- the environment of a block -/
def cenvOf (scope : Scope) (env : Env) (L : Addr) : Env :=
  { scope := relabel scope env, locals := L, globals := env.globals, cells := cellsFrom (L + 1) scope.names (clos env scope.names []), qual := env.qual, func := none, code := env.code, frame := env.frame, builtins := env.builtins }

theorem lookup_relabel {env : Env} : ∀ {names : List (Str × NameKind)} {x : Str},
    (names.map fun (n, k) => if (k == NameKind.free && env.scope.kind == .function && env.kindOf n == some .cell) then (n, NameKind.cell) else (n, k)).lookup x =
      (names.lookup x).map fun k => if (k == NameKind.free && env.scope.kind == .function && env.kindOf x == some .cell) then NameKind.cell else k
  | [], x => rfl
  | (y, k) :: r, x => by
    rw [List.map_cons]
    cases hx : x == y with
    | true =>
      have := beq_iff_eq.mp hx; subst this
      rw [List.lookup_cons_self]
      show List.lookup x ((if (k == NameKind.free && env.scope.kind == .function && env.kindOf x == some .cell) = true then (x, NameKind.cell) else (x, k)) :: _) = _
      split <;> simp_all
    | false =>
      show List.lookup x ((if (k == NameKind.free && env.scope.kind == .function && env.kindOf y == some .cell) = true then (y, NameKind.cell) else (y, k)) :: _) = _
      split <;> (rw [List.lookup_cons, List.lookup_cons]; simp only [hx]; exact lookup_relabel)
theorem kindOf_cenv {scope : Scope} {env : Env} {L : Addr} {x : Str} : (cenvOf scope env L).kindOf x = (scope.names.lookup x).map fun k => if (k == NameKind.free && env.scope.kind == .function && env.kindOf x == some .cell) then NameKind.cell else k := lookup_relabel

/-- what a block sees of its surroundings -/
def visible (scope : Scope) (env : Env) (Γ : List (Str × D)) : List (Str × D) :=
  Γ.filter fun p => scope.names.lookup p.1 == some .free && env.kindOf p.1 == some .cell && !(scope.names.any fun q => q.1 == p.1 && q.2 == NameKind.cell)

theorem lookup_filter {p : Str → Bool} : ∀ {Γ : List (Str × D)} {x : Str} {d : D}, (Γ.filter fun q => p q.1).lookup x = some d → Γ.lookup x = some d ∧ p x = true
  | [], x, d, h => by simp at h
  | (y, e) :: r, x, d, h => by
    rw [List.filter_cons] at h
    rw [List.lookup_cons]
    cases hx : x == y with
    | true =>
      have := beq_iff_eq.mp hx; subst this
      cases hp : p x with
      | true => rw [if_pos hp, List.lookup_cons_self] at h; exact ⟨h, rfl⟩
      | false => rw [if_neg (by simp [hp])] at h; have := (lookup_filter h).2; rw [hp] at this; cases this
    | false =>
      split at h
      · rw [List.lookup_cons, hx] at h; exact lookup_filter h
      · exact lookup_filter h

structure BlockOk (scope : Scope) (env : Env) (x : Str) : Prop where
  kind : scope.kind = .function
  free : ∀ p ∈ scope.names, p.2 = .free → (env.cells.lookup p.1).isSome = true
  names : ∀ p ∈ scope.names, p.2 = .local → scope.names.lookup p.1 = some .local
  var : scope.names.lookup x = some .local ∨ (scope.names.lookup x = some .cell ∧ ∀ L, ∃ k, (cellsFrom (L + 1) scope.names (clos env scope.names [])).lookup x = some (L + 1 + k))

section
variable {C : Cx} {n : Nat} {env : Env} {Γ : List (Str × D)} {tr tr1 tr2 tr3 : List MObj}

theorem newEnv_any {M : Model} {A : Around} {E : Value → Shared → Prop} {s : Shared} {scope : Scope} {cl : List (Str × Addr)} {Q : Env → Shared → Prop}
    (h : Q { scope := scope, locals := s.heap.objs.size, globals := env.globals, cells := cellsFrom (s.heap.objs.size + 1) scope.names cl, qual := env.qual, func := none, code := env.code, frame := env.frame, builtins := env.builtins }
      { s with heap := pushCells (s.heap.push { cls := .type "dict", data := .dict #[] }) scope.names }) :
    wpAny M A (newFunctionEnv scope env.globals cl [] env.qual none .none (some env)) Q E s := by
  simp only [newFunctionEnv, Option.isSome_some, if_true]
  refine wpAny_bind (wpAny_alloc ?_)
  refine wpAny_bind (wpAny_layCells _ (fun name kind cells => by cases hkc : kind == NameKind.cell <;> simp [hkc]) _ _ _ _ ?_)
  rw [show ({ s with heap := s.heap.push { cls := .type "dict", data := .dict #[] } } : Shared).heap.objs.size = s.heap.objs.size + 1 from Heap.size_push ..]
  rw [List.forIn_nil]
  exact wpAny_bind (wpAny_pure (wpAny_pure h))

/-- an object of one's own becomes immutable -/
theorem W.adopt {g g0 : Im} {as as0 : List Addr} {s s0 : Shared} {wr : Addr → Prop} (w : W C g as tr s) (G : Grow wr g0 as0 s0 g as s) {a : Addr} {o : Obj} (e : s.heap.get? a = some o) (ga : g a = none) (ha : a ∉ as) (new : s0.heap.get? a = none) :
    W C (upd g a o) as tr s ∧ Grow wr g0 as0 s0 (upd g a o) as s := by
  have S := upd_sub (o := o) ga
  refine ⟨⟨w.ok, fun b o' e => S b o' (w.base b o' e), fun b o' h => ?_, w.os, w.gens, w.nod, w.len, fun n b m hb hm => ?_⟩, ⟨G.sub.trans S, G.pre, G.keep, G.alive, fun b o' h n hb => ?_, G.newas⟩⟩
  · unfold upd at h
    split at h
    · rename_i q; subst q; cases h; exact e
    · exact w.sub b o' h
  · have := (w.mob n b m hb hm).kept (h' := s.heap) (l := []) S (fun o e => e) (fun q => by
      unfold upd
      rw [if_neg (fun (h : b = a) => ha (by subst h; exact List.mem_of_getElem? hb))]
      exact q)
    simpa using this
  · unfold upd at h
    split at h
    · rename_i q; subst q; exact new
    · exact G.fresh b o' h n hb

/-- an object of one's own is let go -/
theorem W.drop {g g0 : Im} {as as0 : List Addr} {s s0 : Shared} {wr : Addr → Prop} (w : W C g as tr s) (G : Grow wr g0 as0 s0 g as s) {a : Addr} {h' : Heap} (keep : ∀ b o, b ≠ a → s.heap.get? b = some o → h'.get? b = some o) (ga : g a = none) (ha : a ∉ as) (new : s0.heap.get? a = none) :
    W C g as tr { s with heap := h' } ∧ Grow wr g0 as0 s0 g as { s with heap := h' } := by
  refine ⟨⟨w.ok, w.base, fun b o e => keep b o (fun h => by subst h; rw [ga] at e; cases e) (w.sub b o e), w.os, w.gens, w.nod, w.len, fun i b m hb hm => ?_⟩, ⟨G.sub, G.pre, fun b o hb hw e => ?_, fun b o e => ?_, G.fresh, G.newas⟩⟩
  · have := (w.mob i b m hb hm).kept (h' := h') (l := []) (Sub.refl g) (fun o e => keep b o (fun (h : b = a) => ha (by rw [← h]; exact List.mem_of_getElem? hb)) e) id
    simpa using this
  · exact keep b o (fun h => by subst h; rw [new] at e; cases e) (G.keep b o hb hw e)
  · obtain ⟨o', e'⟩ := G.alive b o e
    exact ⟨o', keep b o' (fun h => by subst h; rw [new] at e; cases e) e'⟩

theorem get_none_of {h h' : Heap} (k : ∀ b o, h.get? b = some o → h'.get? b = some o) {b : Addr} (e : h'.get? b = none) : h.get? b = none := by
  cases q : h.get? b with
  | none => rfl
  | some o => rw [k b o q] at e; cases e

theorem comp_core {A : Around} {g1 : Im} {as1 : List Addr} {s1 : Shared} {elt iter : Expr} {x : Str} {px pos : Pos} {ifs : List Expr} {scope : Scope} {v : Value} {d : D} {ds outs : List D} {trs : Nat → List MObj} {RR : Value → Addr → Result → Shared → Prop}
    (L : Lv n A) (w1 : W C g1 as1 (trs 0) s1) (F1 : Fm env g1 as1 Γ s1.heap) (a1 : At g1 as1 v d) (hsrc : Src d ds) (B : BlockOk scope env x) (hlen : outs.length = ds.length) (hz : ds.length ≤ 1000000)
    (step : ∀ k e o, ds[k]? = some e → outs[k]? = some o → ∀ Lc, (∀ c ∈ ifs, Tt C n (cenvOf scope env Lc) ((x, e) :: visible scope env Γ) (trs k) c (trs k) true) ∧ Ev C n (cenvOf scope env Lc) ((x, e) :: visible scope env Γ) (trs k) elt (trs (k + 1)) o)
    (hRR : ∀ a Lc g' as' s', s1.heap.get? Lc = none → (∃ m, s'.heap.Ns Lc m) → g' Lc = none → Lc ∉ as' → W C g' as' (trs ds.length) s' → Grow noW g1 as1 s1 g' as' s' → At g' as' (.ref a) (.lst outs) → RR (.ref a) Lc (.ok .next) s') :
    wpAny (model C.prog C.w) A (pyIter v) (fun it s2 => wpAny (model C.prog C.w) A (newList []) (fun acc s3 =>
      wpAny (model C.prog C.w) A (newFunctionEnv scope env.globals (clos env scope.names []) [] env.qual none .none (some env)) (fun cenv s4 =>
        codeAny (model C.prog C.w) A (.compStart (.ListComp elt [⟨.Name x px, iter, ifs, 0⟩] scope pos) 0 it acc { cenv with scope := relabel scope env }) (RR acc cenv.locals) s4) noE s3) noE s2) noE s1 := by
  refine wpAny_mono (iter_src L w1 a1 hsrc) (fun it s2 p2 => ?_) fun _ _ h => h
  obtain ⟨I, fp, wi, St, rfl, Wk, st, kp, ho, hg, hwr, hfp, hal⟩ := p2
  refine wpAny_newObj_type (newEnv_any ?_) (by size_fits)
  -- the addresses
  generalize hDd : s2.heap.objs.size = Dd
  generalize hH3 : s2.heap.push { cls := .type "list", dict := none, data := .seq ([] : List Value).toArray } = H3
  generalize hLc : H3.objs.size = Lc
  have hLD : Lc = Dd + 1 := by rw [← hLc, ← hH3, Heap.size_push, hDd]
  generalize hH4 : pushCells (H3.push { cls := .type "dict", data := .dict #[] }) scope.names = H4
  have hsz4 : (H3.push { cls := .type "dict", data := .dict #[] }).objs.size = Lc + 1 := by rw [Heap.size_push, hLc]
  have ok := cellsFrom_ok scope.names (H3.push { cls := .type "dict", data := .dict #[] }) (Lc + 1) [] ⟨fun _ _ hm => (nomatch hm), List.Pairwise.nil⟩ (by rw [hsz4]; exact Nat.le_refl _)
  rw [hsz4, hH4] at ok
  have k23 : ∀ b o, s2.heap.get? b = some o → H3.get? b = some o := fun b o e => hH3 ▸ Heap.get?_push_of_some _ e
  have k34 : ∀ b o, H3.get? b = some o → H4.get? b = some o := fun b o e => hH4 ▸ pushCells_keeps _ _ b o (Heap.get?_push_of_some _ e)
  have k14 : ∀ b o, s1.heap.get? b = some o → H4.get? b = some o := fun b o e => k34 b o (k23 b o (kp b o e))
  have nD2 : s2.heap.get? Dd = none := Heap.get?_none_of_le (Nat.le_of_eq hDd)
  have nD1 : s1.heap.get? Dd = none := get_none_of kp nD2
  have nL3 : H3.get? Lc = none := Heap.get?_none_of_le (Nat.le_of_eq hLc)
  have nL1 : s1.heap.get? Lc = none := get_none_of kp (get_none_of k23 nL3)
  have nC1 : ∀ c, Lc + 1 ≤ c → s1.heap.get? c = none := fun c hc => get_none_of kp (get_none_of k23 (Heap.get?_none_of_le (by rw [hLc]; omega)))
  have eD : H4.get? Dd = some (lstObj [] 0) := k34 _ _ (by rw [← hH3, ← hDd]; exact Heap.get?_push_size _ rfl)
  have nsL : H4.Ns Lc (fun _ => none) := by
    have := (Heap.Ns.new H3 (.type "dict")).keeps (h' := H4) (fun b o e => hH4 ▸ pushCells_keeps _ _ b o e)
    rwa [hLc] at this
  -- own addresses
  let new : List (Str × Addr) := cellsFrom (Lc + 1) scope.names []
  have hnew : ∀ y c, (y, c) ∈ new → H4.IsCell c none ∧ Lc + 1 ≤ c := fun y c h => ok.empty y c h
  have hcells : (cenvOf scope env Lc).cells = new ++ clos env scope.names [] := cellsFrom_append _ _ _
  have hclos : ∀ y c, (y, c) ∈ clos env scope.names [] → env.cells.lookup y = some c := fun y c h => (clos_mem _ _ y c h).elim (fun h => nomatch h) id
  have hlook : ∀ y c, (cenvOf scope env Lc).cells.lookup y = some c → (y, c) ∈ new ∨ env.cells.lookup y = some c := fun y c h => by
    have := mem_of_lookup h
    rw [hcells] at this
    exact (List.mem_append.mp this).imp id (hclos y c)
  let own : List Addr := wi ++ (Dd :: Lc :: new.map (·.2))
  have own1 : ∀ b ∈ own, s1.heap.get? b = none ∧ (∃ o, H4.get? b = some o) := fun b hb => by
    rcases List.mem_append.mp hb with hb | hb
    · obtain ⟨h1, o, h2⟩ := hwr b hb
      exact ⟨h1, o, k34 _ _ (k23 _ _ h2)⟩
    · rcases List.mem_cons.mp hb with rfl | hb
      · exact ⟨nD1, _, eD⟩
      · rcases List.mem_cons.mp hb with rfl | hb
        · exact ⟨nL1, ns_some nsL⟩
        · obtain ⟨⟨y, c⟩, hyc, rfl⟩ := List.mem_map.mp hb
          obtain ⟨⟨o, ho, _⟩, hle⟩ := hnew y c hyc
          exact ⟨nC1 c hle, o, ho⟩
  have wiD : Dd ∉ wi := fun h => by obtain ⟨_, o, e⟩ := hwr _ h; rw [nD2] at e; cases e
  have wiN : ∀ b ∈ wi, ∀ c, Lc ≤ c → b ≠ c := fun b hb c hc q => by
    obtain ⟨_, o, e⟩ := hwr b hb
    have := Heap.lt_size e
    rw [hDd] at this; rw [q] at this; exact Nat.lt_irrefl _ (Nat.lt_of_lt_of_le this (Nat.le_trans (by rw [hLD]; exact Nat.le_succ _) hc))
  have hwrC : ∀ b, wrOf (cenvOf scope env Lc) b → b = Lc ∨ (∃ y, (y, b) ∈ new) ∨ ∃ y, env.cells.lookup y = some b := fun b h => by
    rcases h with h | ⟨y, hy⟩
    · exact .inl h
    · exact .inr ((hlook y b hy).imp (fun h => ⟨y, h⟩) fun h => ⟨y, h⟩)
  have envOld : ∀ y c, env.cells.lookup y = some c → ∃ o, s1.heap.get? c = some o := fun y c h => by
    obtain ⟨_, _, _, u, o, e, _⟩ := F1.cfree y c h; exact ⟨o, e⟩
  have wiC : ∀ b ∈ wi, ¬ wrOf (cenvOf scope env Lc) b := fun b hb h => by
    rcases hwrC b h with rfl | ⟨y, hy⟩ | ⟨y, hy⟩
    · exact wiN _ hb _ (Nat.le_refl _) rfl
    · exact wiN _ hb b (by have := (hnew y b hy).2; omega) rfl
    · obtain ⟨o, e⟩ := envOld y b hy
      rw [(hwr b hb).1] at e; cases e
  have DC : ¬ wrOf (cenvOf scope env Lc) Dd := fun h => by
    rcases hwrC Dd h with h | ⟨y, hy⟩ | ⟨y, hy⟩
    · have h' : (Dd : Nat) = Lc := h; omega
    · have := (hnew y Dd hy).2; omega
    · obtain ⟨o, e⟩ := envOld y Dd hy
      rw [nD1] at e; cases e
  -- the start
  obtain ⟨w4, G4⟩ := w1.kept (s' := { s2 with heap := H4 }) k14 ho hg
  have X0 : LoopAt C noW g1 as1 s1 fp own St 0 g1 as1 (trs 0) { s2 with heap := H4 } := ⟨w4, G4, Wk.frame 0 _ _ st (fun b _ o e => k34 b o (k23 b o e)), fun b hb => ⟨(own1 b hb).1, (own1 b hb).2, w1.gnone (own1 b hb).1, w1.notin (own1 b hb).1, id⟩, fun b hb => (hfp b hb).imp (fun h => List.mem_append_left _ h) id⟩
  have Fc : Fm (cenvOf scope env Lc) g1 as1 (visible scope env Γ) H4 := by
    refine ⟨B.kind, F1.glob, F1.blt, ⟨_, nsL, fun y e hy hk => ?_⟩, ⟨w1.gnone nL1, w1.notin nL1⟩, fun y c hc => ?_, fun y e hy hk => ?_, fun y z c hy hz => ?_⟩
    · exfalso
      have := (lookup_filter (p := fun z => scope.names.lookup z == some .free && env.kindOf z == some .cell && !(scope.names.any fun q => q.1 == z && q.2 == NameKind.cell)) hy).2
      simp only [Bool.and_eq_true, beq_iff_eq] at this
      rw [kindOf_cenv, this.1.1] at hk
      simp [F1.kind, this.1.2] at hk
    · rcases hlook y c hc with h | h
      · obtain ⟨hcell, hle⟩ := hnew y c h
        exact ⟨w1.gnone (nC1 c hle), w1.notin (nC1 c hle), fun (q : (c : Nat) = Lc) => Nat.lt_irrefl _ (Nat.lt_of_lt_of_le (Nat.lt_succ_self _) (q ▸ hle)), _, hcell⟩
      · obtain ⟨h1, h2, h3, u, o, e, hd⟩ := F1.cfree y c h
        exact ⟨h1, h2, fun (q : c = Lc) => (by rw [q, nL1] at e; cases e), u, o, k14 _ _ e, hd⟩
    · obtain ⟨hl, hp⟩ := lookup_filter (p := fun z => scope.names.lookup z == some .free && env.kindOf z == some .cell && !(scope.names.any fun q => q.1 == z && q.2 == NameKind.cell)) hy
      simp only [Bool.and_eq_true, beq_iff_eq, Bool.not_eq_true'] at hp
      obtain ⟨⟨hp1, hp2⟩, hp3⟩ := hp
      have nn : new.lookup y = none := lookup_none_of fun c h => by
        have := cellsFrom_kind _ _ _ _ h
        have h2 : (scope.names.any fun q => q.1 == y && q.2 == NameKind.cell) = true := List.any_eq_true.mpr ⟨_, this, by simp⟩
        rw [h2] at hp3; cases hp3
      obtain ⟨c, u, hc, ⟨o, e', hd⟩, ha⟩ := F1.cell y e hl hp2
      obtain ⟨c', hm⟩ := clos_has scope.names [] y (.inr ⟨mem_of_lookup hp1, by rw [hc]; rfl⟩)
      obtain ⟨c'', hl''⟩ := lookup_some_of hm
      have : c'' = c := by have := hclos y c'' (mem_of_lookup hl''); rw [hc] at this; cases this; rfl
      subst this
      exact ⟨c'', u, by rw [hcells, List.lookup_append, nn]; exact hl'', ⟨o, k14 _ _ e', hd⟩, ha⟩
    · rcases hlook y c hy with h | h <;> rcases hlook z c hz with h' | h'
      · exact name_of_addr ok.apart h h'
      · obtain ⟨o, e⟩ := envOld z c h'
        rw [nC1 c (hnew y c h).2] at e; cases e
      · obtain ⟨o, e⟩ := envOld y c h
        rw [nC1 c (hnew z c h').2] at e; cases e
      · exact F1.apart y z c h h'
  have hslot : ∀ b, slotOf (cenvOf scope env Lc) x b → b ∈ own ∧ b ∉ wi := fun b h => by
    have kx : (cenvOf scope env Lc).kindOf x = scope.names.lookup x := by
      rw [kindOf_cenv]
      rcases B.var with h | h
      · rw [h]; rfl
      · rw [h.1]; rfl
    rcases h with ⟨_, rfl⟩ | ⟨hk, hc⟩
    · exact ⟨by simp [own, cenvOf], fun hw => wiC _ hw (.inl rfl)⟩
    · rcases B.var with h | ⟨_, h⟩
      · rw [kx, h] at hk; cases hk
      · obtain ⟨j, hj⟩ := h Lc
        have hb : b = Lc + 1 + j := by have : (cenvOf scope env Lc).cells.lookup x = some (Lc + 1 + j) := hj; rw [this] at hc; cases hc; rfl
        rcases hlook x b hc with h | h
        · exact ⟨List.mem_append_right _ (.tail _ (.tail _ (List.mem_map.mpr ⟨_, h, rfl⟩))), fun hw => wiC _ hw (.inr ⟨x, hc⟩)⟩
        · obtain ⟨o, e⟩ := envOld x b h
          rw [hb, nC1 _ (by omega)] at e; cases e
  have hstore : Stores (cenvOf scope env Lc) x := by
    have kx : (cenvOf scope env Lc).kindOf x = scope.names.lookup x := by
      rw [kindOf_cenv]
      rcases B.var with h | h
      · rw [h]; rfl
      · rw [h.1]; rfl
    rcases B.var with h | ⟨h, h2⟩
    · exact .inl (kx.trans h)
    · obtain ⟨j, hj⟩ := h2 Lc
      exact .inr ⟨kx.trans h, by show (List.lookup x (cellsFrom (Lc + 1) scope.names (clos env scope.names []))).isSome = true; rw [hj]; rfl⟩
  have loop : codeAny (model C.prog C.w) A (.compLoop (.ListComp elt [⟨.Name x px, iter, ifs, 0⟩] scope pos) 0 (.ref I) (.ref Dd) (cenvOf scope env Lc)) (RR (.ref Dd) Lc) { s2 with heap := H4 } := by
    refine codeAny_compLoop_tests (fun j s' => ∃ k g' as' vs q, k ≤ ds.length ∧ j = ds.length - k ∧ LoopAt C noW g1 as1 s1 fp own St k g' as' (trs k) s' ∧ Fm (cenvOf scope env Lc) g' as' (visible scope env Γ) s'.heap ∧ s'.heap.get? Dd = some (lstObj vs q) ∧ Ats g' as' vs (outs.take k))
      (fun j s' hI => ?_) ds.length ⟨0, g1, as1, [], 0, Nat.zero_le _, rfl, X0, Fc, eD, by simpa using Ats.nil⟩
    obtain ⟨k, g', as', vs, q, hkl, rfl, X, Fk, eDk, hvs⟩ := hI
    by_cases hlt : k < ds.length
    · refine Wk.item k s' _ _ hlt X.st fun v h' tk hv st' kp' => ?_
      obtain ⟨e, he, av⟩ := hv
      have hok : outs[k]? = some outs[k] := List.getElem?_eq_getElem (by omega)
      have X' := X.next (tk := tk) st' (fun b o hb e => kp' b o (fun h => hb (List.mem_append_left _ h)) e) (fun b hb => by
        by_cases hw : b ∈ wi
        · exact hal _ _ st' b hw
        · obtain ⟨o, e⟩ := (X.new b hb).2.1
          exact ⟨o, kp' b o hw e⟩)
      have Fk' : Fm (cenvOf scope env Lc) g' as' (visible scope env Γ) ({ s' with heap := h', toks := tk } : Shared).heap := Fk.past kp' wiC
      have eDk' := kp' _ _ wiD eDk
      obtain ⟨l, hl⟩ := X.grow.pre
      have av' : At g' as' v e := by subst hl; exact av.mono X.grow.sub
      refine PySem.wpAny_assign_Name (wpAny_mono (store_any X'.w Fk' av' hstore) (fun _ s3 p3 => ?_) fun _ _ h => h.elim)
      have X3 := X'.body2 Wk p3.1 p3.2.1 (fun b h => .inr (hslot b h).1) (fun b hb hw h => by
        rcases hfp b hb with h' | ⟨o, h'⟩
        · exact (hslot b h).2 h'
        · have := w1.sub b o h'; rw [(own1 b hw).1] at this; cases this)
      have eD3 : s3.heap.get? Dd = some (lstObj vs q) := p3.1.keep _ _ (X'.new Dd (by simp [own])).2.2.2.1 (fun h => DC (slot_wr _ h)) eDk'
      obtain ⟨hT, hE⟩ := step k e _ he hok Lc
      -- the tests
      have tests : ∀ (l : List Expr), (∀ c ∈ l, c ∈ ifs) → ∀ gg aa ss, W C gg aa (trs k) ss → Grow noW g' as' s3 gg aa ss → Fm (cenvOf scope env Lc) gg aa ((x, e) :: visible scope env Γ) ss.heap →
          wpAny (model C.prog C.w) A (forIn l true fun c r => if r = true then do let ok ← isTrue c (cenvOf scope env Lc) (eval c (cenvOf scope env Lc)); pure (ForInStep.yield ok) else pure (ForInStep.yield r))
            (fun ok s4 => ok = true ∧ ∃ g4 as4, Grow noW g' as' s3 g4 as4 s4 ∧ W C g4 as4 (trs k) s4 ∧ Fm (cenvOf scope env Lc) g4 as4 ((x, e) :: visible scope env Γ) s4.heap) noE ss := by
        intro l
        induction l with
        | nil => intro _ gg aa ss ww GG FF; rw [List.forIn_nil]; exact wpAny_pure ⟨rfl, gg, aa, GG, ww, FF⟩
        | cons c l ih =>
          intro hc gg aa ss ww GG FF
          rw [List.forIn_cons]
          simp only [if_true]
          refine wpAny_bind (wpAny_bind (wpAny_mono (hT c (hc c (.head _)) A gg aa ss L ww FF) (fun b s5 p5 => ?_) fun _ _ h => h))
          obtain ⟨rfl, g5, as5, G5, w5⟩ := p5
          exact wpAny_pure (ih (fun c' h => hc c' (.tail _ h)) g5 as5 s5 w5 (GG.trans G5) (FF.grow G5))
      refine wpAny_mono (tests ifs (fun _ h => h) g' as' s3 p3.2.1 (Grow.refl _ _ _ _) p3.2.2) (fun okb s4 p4 => ?_) fun _ _ h => h.elim
      obtain ⟨rfl, g4, as4, G34, w4', F4⟩ := p4
      simp only [if_true]
      have X4 := X3.body Wk G34 w4' (fun _ h => h)
      refine wpAny_mono (hE A g4 as4 s4 L w4' F4) (fun u s5 p5 => ?_) fun _ _ h => h.elim
      obtain ⟨g5, as5, G45, w5, a5⟩ := p5
      have X5 := X4.body Wk G45 w5 (fun _ h => h)
      have G35 := G34.trans G45
      have eD5 : s5.heap.get? Dd = some (lstObj vs q) := G35.keep _ _ (X3.new Dd (by simp [own])).2.2.2.1 id eD3
      refine append_at eD5 (fun h6 hs6 ho6 => ?_) (by rw [List.size_toArray, hvs.length, List.length_take, sizeLine_eq]; omega)
      have X6 := X5.next (tk := s5.toks) (h' := h6) (Wk.frame _ _ _ X5.st fun b hb o e => (hs6.2 b (fun q => by
          subst q
          rcases hfp b hb with h' | ⟨o', h'⟩
          · exact wiD h'
          · have := w1.sub b o' h'; rw [nD1] at this; cases this)).trans e) (fun b o hb e => (hs6.2 b (fun q => hb (by subst q; simp [own]))).trans e) (fun b hb => by
          by_cases q : b = Dd
          · subst q; exact ⟨_, ho6⟩
          · obtain ⟨o, e⟩ := (X5.new b hb).2.1
            exact ⟨o, (hs6.2 b q).trans e⟩)
      refine ⟨ds.length - (k + 1), by omega, k + 1, g5, as5, vs ++ [u], q + 1, hlt, rfl, X6, ?_, by rw [ho6]; simp [lstObj], ?_⟩
      · refine Fm.past (h := s5.heap) (wr := [Dd]) ((F4.grow G45).weaken fun y d' hy => ?_) (fun b o hb e => (hs6.2 b (fun q => hb (by subst q; simp))).trans e) (fun b hb => by rw [List.mem_singleton.mp hb]; exact DC)
        rw [List.lookup_cons]
        cases hyx : y == x with
        | true =>
          exfalso
          have := beq_iff_eq.mp hyx; subst this
          have := (lookup_filter (p := fun z => scope.names.lookup z == some .free && env.kindOf z == some .cell && !(scope.names.any fun q => q.1 == z && q.2 == NameKind.cell)) hy).2
          simp only [Bool.and_eq_true, beq_iff_eq] at this
          rcases B.var with h | h
          · rw [h] at this; cases this.1.1
          · rw [h.1] at this; cases this.1.1
        | false => exact hy
      · have hv3 := G35.ats (show Ats g' as' vs (outs.take k) from hvs)
        have : outs.take (k + 1) = outs.take k ++ [outs[k]] := by rw [List.take_add_one, hok]; rfl
        rw [this]
        exact hv3.append (.cons a5 .nil)
    · have : k = ds.length := by omega
      subst this
      refine Wk.done s' _ _ X.st fun h' tk kp' => ?_
      obtain ⟨wo, Go⟩ := X.out (h' := h') (tk := tk) (fun b o hb e => kp' b o (fun h => hb (List.mem_append_left _ h)) e)
      have eD' := kp' _ _ wiD eDk
      obtain ⟨nD, _, gD, aD, _⟩ := X.new Dd (by simp [own])
      obtain ⟨wa, Ga⟩ := wo.adopt Go (a := Dd) eD' gD aD nD
      have Fo : Fm (cenvOf scope env Lc) g' as' (visible scope env Γ) h' := Fk.past kp' wiC
      obtain ⟨m, hn, _⟩ := Fo.ns
      refine hRR Dd Lc _ _ _ nL1 ⟨m, hn⟩ ?_ Fo.lfree.2 wa Ga (.lst (upd_self _ _ _) ?_)
      · unfold upd
        rw [if_neg (fun (q : (Lc : Nat) = Dd) => by omega)]
        exact Fo.lfree.1
      · rw [← hlen, List.take_length] at hvs
        have := hvs.mono (l := []) (upd_sub (o := lstObj vs q) gD)
        simpa using this
  exact codeAny_compStart_list loop (Wk.self 0 _ _ _ X0.st loop)

theorem Ev_comp {elt iter : Expr} {x : Str} {px pos : Pos} {ifs : List Expr} {scope : Scope} {d : D} {ds : List D} (outs : List D) (trs : Nat → List MObj)
    (hi : Ev C n env Γ tr iter (trs 0) d) (hsrc : Src d ds) (B : BlockOk scope env x) (hlen : outs.length = ds.length) (hz : ds.length ≤ 1000000)
    (step : ∀ k e o, ds[k]? = some e → outs[k]? = some o → ∀ Lc, (∀ c ∈ ifs, Tt C n (cenvOf scope env Lc) ((x, e) :: visible scope env Γ) (trs k) c (trs k) true) ∧ Ev C n (cenvOf scope env Lc) ((x, e) :: visible scope env Γ) (trs k) elt (trs (k + 1)) o)
    (hs : ∀ v, foldedSetIterable iter env v = pure v) :
    Ev C n env Γ tr (.ListComp elt [⟨.Name x px, iter, ifs, 0⟩] scope pos) (trs ds.length) (.lst outs) :=
  fun A g as s L w F => by
    rw [eval_ListComp]
    refine wpAny_comprehension_free (use := none) rfl hs (closureFor_clos B.free) B.kind B.names (wpAny_mono (hi A g as s L w F) (fun v s1 p1 => ?_) fun _ _ h => h)
    obtain ⟨g1, as1, G1, w1, a1⟩ := p1
    refine comp_core (RR := fun acc Lc => compPost (model C.prog C.w) A noE none (Post C noW g as s (trs ds.length) (.lst outs)) acc Lc) L w1 (F.grow G1) a1 hsrc B hlen hz step ?_
    intro a Lc g' as' s' nL hns gL aL w' G' ha
    obtain ⟨m, hn⟩ := hns
    refine ⟨m, hn, fun h' hs' => ?_⟩
    obtain ⟨w2, G2⟩ := w'.drop G' (a := Lc) (h' := h') (fun b o hb e => (hs'.2 b hb).trans e) gL aL nL
    exact ⟨g', as', G1.trans G2, w2, ha⟩

/-- y = [..] (the stores exchanged) -/
theorem Ex1_assign_comp {elt iter : Expr} {x y : Str} {px py pos pos2 : Pos} {ifs : List Expr} {scope : Scope} {d : D} {ds : List D} (outs : List D) (trs : Nat → List MObj)
    (hi : Ev C n env Γ tr iter (trs 0) d) (hsrc : Src d ds) (B : BlockOk scope env x) (hlen : outs.length = ds.length) (hz : ds.length ≤ 1000000)
    (step : ∀ k e o, ds[k]? = some e → outs[k]? = some o → ∀ Lc, (∀ c ∈ ifs, Tt C n (cenvOf scope env Lc) ((x, e) :: visible scope env Γ) (trs k) c (trs k) true) ∧ Ev C n (cenvOf scope env Lc) ((x, e) :: visible scope env Γ) (trs k) elt (trs (k + 1)) o)
    (hs : ∀ v, foldedSetIterable iter env v = pure v) (hk : Stores env y)
    (hsw : swapsWith (.ListComp elt [⟨.Name x px, iter, ifs, 0⟩] scope pos) (some (.Name y py)) pos2.line env = pure true) :
    Ex1 C n env Γ tr (.Assign [.Name y py] (.ListComp elt [⟨.Name x px, iter, ifs, 0⟩] scope pos) pos2) (.next ((y, .lst outs) :: Γ) (trs ds.length)) :=
  fun A g as s L w F => by
    rw [exec_Assign_Name_used _ _ _ _ hsw]
    refine wpAny_bind (wpAny_standAt (wpAny_bind ?_))
    show wpAny _ A (do let _ ← comprehension (.ListComp elt [⟨.Name x px, iter, ifs, 0⟩] scope pos) scope env _ (newList []) false (eval iter env) (some (assign (.Name y py) env))) _ _ s
    refine wpAny_bind (wpAny_mono (wpAny_comprehension_free (use := some (assign (.Name y py) env)) (Q := fun _ s' => OutP C env g as s (.next ((y, .lst outs) :: Γ) (trs ds.length)) .next s') rfl hs (closureFor_clos B.free) B.kind B.names
      (wpAny_mono (hi A g as s L w F) (fun v s1 p1 => ?_) fun _ _ h => h)) (fun _ s' hq => wpAny_pure (wpAny_pure hq)) fun _ _ h => h)
    obtain ⟨g1, as1, G1, w1, a1⟩ := p1
    have F1 := F.grow G1
    refine comp_core (RR := fun acc Lc => compPost (model C.prog C.w) A noE (some (assign (.Name y py) env)) (fun _ s' => OutP C env g as s (.next ((y, .lst outs) :: Γ) (trs ds.length)) .next s') acc Lc) L w1 F1 a1 hsrc B hlen hz step ?_
    intro a Lc g' as' s' nL hns gL aL w' G' ha
    obtain ⟨m, hn⟩ := hns
    have nw : ¬ wrOf env Lc := fun h => by
      rcases h with h | ⟨z, hz⟩
      · obtain ⟨m', hn', _⟩ := F1.ns
        obtain ⟨o, e⟩ := ns_some hn'
        rw [← h, nL] at e; cases e
      · obtain ⟨_, _, _, u, o, e, _⟩ := F1.cfree z Lc hz
        rw [nL] at e; cases e
    show wpAny _ A (assign (.Name y py) env (.ref a)) _ _ _
    refine PySem.wpAny_assign_Name (wpAny_mono (store_any w' (F1.grow G') ha hk) (fun _ s3 p3 => ?_) fun _ _ h => h)
    obtain ⟨o, e⟩ := ns_some hn
    refine ⟨m, ns_at hn fun o e => p3.1.keep _ o aL (fun h => nw (slot_wr _ h)) e, fun h' hs' => ?_⟩
    have G3 := G'.noW.trans (p3.1.wider slot_wr)
    obtain ⟨w2, G2⟩ := p3.2.1.drop G3 (a := Lc) (h' := h') (fun b o hb e => (hs'.2 b hb).trans e) gL aL nL
    exact ⟨g', as', G1.noW.trans G2, w2, p3.2.2.past (wr := [Lc]) (fun b o hb e => (hs'.2 b (fun q => hb (by rw [q]; simp))).trans e) fun b hb => by rw [List.mem_singleton.mp hb]; exact nw⟩
end


/-! entering a def -/
def fenv (scope : Scope) (qual : Str) (L a : Addr) (code : Value) : Env := newEnv scope L mainGlobals (cellsFrom (L + 1) scope.names []) qual (some a) code none builtinsNs

structure FnAt (C : Cx) (a : Addr) (names : List Str) (body : List Stmt) (scope : Scope) : Prop where
  fd : ∃ (o : Obj) (fd : FuncData), C.H0.get? a = some o ∧ o.data = .func fd ∧ fd.body = .stmts body ∧ fd.scope = scope ∧ C.H0.CodeRec fd.code fd.qualname ∧ fd.closure = [] ∧ fd.globals = mainGlobals ∧ fd.builtins = builtinsNs ∧
    ∀ (s : Shared) (vs : List Value), (∀ b o, C.H0.get? b = some o → s.heap.get? b = some o) → vs.length = names.length → BindsTo s fd ⟨vs, []⟩ (names.zip vs)
  kind : scope.kind = .function
  gen : scope.isGenerator = false
  co : scope.isCoroutine = false
  nod : names.Nodup
  par : ∀ x ∈ names, scope.names.lookup x = some .local ∨ (scope.names.lookup x = some .cell ∧ ∀ L, ((cellsFrom (L + 1) scope.names []).lookup x).isSome = true)

theorem bindL_zip {kindOf : Str → Option NameKind} : ∀ (names : List Str) (vs : List Value) (m : Str → Option Value), names.Nodup → ∀ x, kindOf x = some .local → bindL kindOf (names.zip vs) m x = ((names.zip vs).lookup x).or (m x)
  | [], vs, m, _, x, _ => rfl
  | y :: r, [], m, _, x, _ => rfl
  | y :: r, v :: vs, m, hn, x, hk => by
    rw [List.nodup_cons] at hn
    show bindL kindOf (r.zip vs) (if kindOf y = some .local then fun z => if z = y then some v else m z else m) x = _
    rw [bindL_zip r vs _ hn.2 x hk]
    show _ = (List.lookup x ((y, v) :: r.zip vs)).or (m x)
    rw [List.lookup_cons]
    by_cases hxy : x = y
    · subst hxy
      have : (r.zip vs).lookup x = none := lookup_none_of fun c h => hn.1 (List.of_mem_zip h).1
      rw [this]; simp [hk]
    · have : (x == y) = false := beq_eq_false_iff_ne.mpr hxy
      rw [this]
      split <;> simp [hxy]
theorem bindC_zip {kindOf : Str → Option NameKind} : ∀ (names : List Str) (vs : List Value) (m : Str → Option Value), names.Nodup → ∀ x, kindOf x ≠ some .local → bindC kindOf (names.zip vs) m x = ((names.zip vs).lookup x).or (m x)
  | [], vs, m, _, x, _ => rfl
  | y :: r, [], m, _, x, _ => rfl
  | y :: r, v :: vs, m, hn, x, hk => by
    rw [List.nodup_cons] at hn
    show bindC kindOf (r.zip vs) (if kindOf y = some .local then m else fun z => if z = y then some v else m z) x = _
    rw [bindC_zip r vs _ hn.2 x hk]
    show _ = (List.lookup x ((y, v) :: r.zip vs)).or (m x)
    rw [List.lookup_cons]
    by_cases hxy : x = y
    · subst hxy
      have : (r.zip vs).lookup x = none := lookup_none_of fun c h => hn.1 (List.of_mem_zip h).1
      rw [this]; simp [hk]
    · have : (x == y) = false := beq_eq_false_iff_ne.mpr hxy
      rw [this]
      split <;> simp [hxy]
theorem zip_data {g : Im} {as : List Addr} : ∀ {names : List Str} {vs : List Value} {ds : List D}, Ats g as vs ds → ∀ {x : Str} {d : D}, (names.zip ds).lookup x = some d → ∃ v, (names.zip vs).lookup x = some v ∧ At g as v d
  | [], _, _, _, _, _, h => by simp at h
  | y :: r, _, _, .nil, _, _, h => by simp at h
  | y :: r, _, _, .cons (v := v) (vs := vs) (d := d0) (ds := ds) a rest, x, d, h => by
    rw [List.zip_cons_cons, List.lookup_cons] at h
    rw [List.zip_cons_cons, List.lookup_cons]
    cases hx : x == y with
    | true => rw [hx] at h; cases h; exact ⟨v, rfl, a⟩
    | false => rw [hx] at h; exact zip_data rest h

theorem Grow.inner {wr : Addr → Prop} {g g' : Im} {as as' : List Addr} {s s1 s2 : Shared} (k : ∀ b o, s.heap.get? b = some o → s1.heap.get? b = some o) (hw : ∀ b, wr b → s.heap.get? b = none) (G : Grow wr g as s1 g' as' s2) : Grow Mine.noW g as s g' as' s2 :=
  ⟨G.sub, G.pre, fun b o hb _ e => G.keep b o hb (fun h => by rw [hw b h] at e; cases e) (k b o e), fun b o e => G.alive b o (k b o e), fun b o h n hb => get_none_of k (G.fresh b o h n hb), fun b h n => get_none_of k (G.newas b h n)⟩

section
variable {C : Cx} {n : Nat} {env : Env} {Γ : List (Str × D)} {tr tr1 tr2 tr3 : List MObj}

/-- a call of a def: to its body -/
theorem code_of {a : Addr} {names : List Str} {body : List Stmt} {scope : Scope} {ds : List D} {o : Out} (H : FnAt C a names body scope) (hlen : ds.length = names.length)
    (hb : ∀ qual L code, Ex C n (fenv scope qual L a code) (names.zip ds) tr body o) {A : Around} {g : Im} {as : List Addr} {s : Shared} {vs : List Value} {R : Result → Shared → Prop}
    (hA : A.depth < recursionLimit) (L : ∀ env, GoodE env → Lv n (A.deeper env)) (w : W C g as tr s) (hvs : Ats g as vs ds)
    (hR : ∀ (v : Value) (s' : Shared) (f : Flow), (∃ g' as', Grow noW g as s g' as' s' ∧ match o, f with
      | Out.next Γ' tr', Flow.next => v = .none ∧ W C g' as' tr' s'
      | Out.ret tr' d, Flow.ret u => v = u ∧ W C g' as' tr' s' ∧ At g' as' u d
      | _, _ => False) → R (.ok (.ret v)) s') :
    codeAny (model C.prog C.w) A (.call (.ref a) ⟨vs, []⟩) R s := by
  obtain ⟨ob, fd, ho, hd, hbody, hsc, hcd, hclo, hgl, hbl, hbind⟩ := H.fd
  subst hsc
  refine codeAny_call_function hA (w.kept0 _ _ ho) hd H.co H.gen hbody (hcd.keeps w.kept0) ?_
  refine hbind s vs w.kept0 (hvs.length.trans hlen) _ _ _ _ ?_
  rw [hclo, hgl, hbl]
  have hpar : ∀ x ∈ names.zip vs, fd.scope.names.lookup x.1 = some .local ∨ (fd.scope.names.lookup x.1 = some .cell ∧ ((cellsFrom (s.heap.objs.size + 1) fd.scope.names []).lookup x.1).isSome = true) := fun x hx => by
    obtain ⟨y, v⟩ := x
    exact (H.par y (List.of_mem_zip hx).1).imp id fun h => ⟨h.1, h.2 _⟩
  refine wpAny_newFunctionEnv_cells H.kind hpar fun env he s1 X => ?_
  refine ⟨(w.ok.lim.keeps w.kept0).keeps X.toInCall.keep, ?_⟩
  have he' : env = fenv fd.scope (fd.qualname ++ ".<locals>.") s.heap.objs.size a fd.code := he
  obtain ⟨h1, tk, hs1⟩ := X.toInCall.same
  obtain ⟨w1, G1⟩ := w.kept X.toInCall.keep (by rw [hs1]) (by rw [hs1])
  have hGood : GoodE env := by subst he'; exact ⟨H.gen, H.co, rfl, rfl⟩
  have nfresh : ∀ b, s.heap.objs.size ≤ b → s.heap.get? b = none := fun b hb => Heap.get?_none_of_le hb
  have hloc : env.locals = s.heap.objs.size := by subst he'; rfl
  have hwr : ∀ b, wrOf env b → s.heap.get? b = none := fun b h => by
    rcases h with h | ⟨x, hx⟩
    · rw [h, hloc]; exact nfresh _ (Nat.le_refl _)
    · have := X.above x b (mem_of_lookup hx)
      rw [hloc] at this
      exact nfresh _ (Nat.le_of_lt this)
  have F : Fm env g as (names.zip ds) s1.heap := by
    have kk : env.scope = fd.scope := by subst he'; rfl
    have kf : ∀ x, env.kindOf x = fd.scope.names.lookup x := fun x => by unfold Env.kindOf; rw [kk]
    refine ⟨by rw [kk]; exact H.kind, by subst he'; rfl, by subst he'; rfl, ⟨_, X.toInCall.ns, fun x d hx hk => ?_⟩, ?_, fun x c hc => ?_, fun x d hx hk => ?_, fun x y c hx hy => name_of_addr X.apart (mem_of_lookup hx) (mem_of_lookup hy)⟩
    · rw [bindL_zip names vs _ H.nod x hk]
      obtain ⟨v, hv, a⟩ := zip_data hvs hx
      exact ⟨v, by rw [hv]; rfl, a⟩
    · rw [hloc]; exact ⟨w.gnone (nfresh _ (Nat.le_refl _)), w.notin (nfresh _ (Nat.le_refl _))⟩
    · have hc0 := hwr c (.inr ⟨x, hc⟩)
      have := X.above x c (mem_of_lookup hc)
      exact ⟨w.gnone hc0, w.notin hc0, Nat.ne_of_gt this, _, X.cell x c hc⟩
    · obtain ⟨v, hv, a⟩ := zip_data hvs hx
      have hmem : x ∈ names := (List.of_mem_zip (mem_of_lookup hx)).1
      rcases H.par x hmem with h | ⟨_, h⟩
      · rw [kf, h] at hk; cases hk
      · obtain ⟨c, hc⟩ := Option.isSome_iff_exists.mp (h s.heap.objs.size)
        have hc' : env.cells.lookup x = some c := by subst he'; exact hc
        refine ⟨c, v, hc', ?_, a⟩
        have := X.cell x c hc'
        rw [bindC_zip names vs _ H.nod x (by rw [hk]; intro h; cases h), hv] at this
        exact this
  have hB : wpAny (model C.prog C.w) (A.deeper env) (execs body env) (OutP C env g as s1 o) noE s1 := by
    have hb' := hb (fd.qualname ++ ".<locals>.") s.heap.objs.size fd.code
    rw [← he'] at hb'
    exact hb' _ g as s1 (L env hGood) w1 F
  refine codeAny_func (wpAny_mono hB (fun f s2 p2 => ?_) fun _ _ h => h.elim)
  obtain ⟨g2, as2, G2, r2⟩ := p2
  have G := Grow.inner X.toInCall.keep hwr G2
  cases o with
  | next Γ' tr' =>
    cases f <;> first | exact r2.elim | exact hR _ _ .next ⟨g2, as2, G, rfl, r2.1⟩
  | ret tr' d =>
    cases f <;> first | exact r2.elim | exact hR _ _ (.ret _) ⟨g2, as2, G, rfl, r2.1, r2.2⟩

theorem Fn_of {a : Addr} {names : List Str} {body : List Stmt} {scope : Scope} {ds : List D} {d : D} (H : FnAt C a names body scope) (hlen : ds.length = names.length)
    (hb : ∀ qual L code, Ex C n (fenv scope qual L a code) (names.zip ds) tr body (.ret tr1 d)) : Fn C (n + 1) (.ref a) tr ds tr1 d := fun A g as s vs L w hvs => by
  refine wpAny_call (code_of H hlen hb L.room (fun env he => L.deeper he) w hvs fun v s' f h => ?_)
  obtain ⟨g', as', G, r⟩ := h
  cases f <;> first | exact r.elim | skip
  obtain ⟨rfl, w', ha⟩ := r
  exact ⟨g', as', G, w', ha⟩

/-! dropping, freezing -/
mutual
def D.lim (n : Nat) : D → Bool
  | .tup ds | .lst ds => D.lims n ds
  | .ptr k => decide (k < n)
  | .inst _ k => decide (k < n)
  | .obj _ fs => D.limF n fs
  | _ => true
def D.lims (n : Nat) : List D → Bool
  | [] => true
  | d :: ds => d.lim n && D.lims n ds
def D.limF (n : Nat) : List (Str × D) → Bool
  | [] => true
  | (_, d) :: ds => d.lim n && D.limF n ds
end
mutual
theorem At.lim {g : Im} {as : List Addr} {v : Value} {d : D} : At g as v d → d.lim as.length = true
  | .none => rfl
  | .bool b => rfl
  | .int i t => rfl
  | .str x t => rfl
  | .tup h r => by simpa [D.lim] using Ats.lim r
  | .lst h r => by simpa [D.lim] using Ats.lim r
  | .rng h => rfl
  | .ptr h => by simpa [D.lim] using (List.getElem?_eq_some_iff.mp h).1
  | .inst h k => by simpa [D.lim] using (List.getElem?_eq_some_iff.mp k).1
  | .obj h k r => by simpa [D.lim] using Flds.lim r
  | .raw v => rfl
theorem Ats.lim {g : Im} {as : List Addr} {vs : List Value} {ds : List D} : Ats g as vs ds → D.lims as.length ds = true
  | .nil => rfl
  | .cons h r => by simp only [D.lims, At.lim h, Ats.lim r, Bool.and_self]
theorem Flds.lim {g : Im} {as : List Addr} {es : List DictEntry} {fs : List (Str × D)} : Flds g as es fs → D.limF as.length fs = true
  | .nil => rfl
  | .cons h r => by simp only [D.limF, At.lim h, Flds.lim r, Bool.and_self]
end
theorem cut_get {as l : List Addr} {n : Nat} {a : Addr} (h : (as ++ l)[n]? = some a) (e : n < as.length) : as[n]? = some a := by
  rw [List.getElem?_append_left e] at h; exact h
mutual
theorem At.cut {g : Im} {as l : List Addr} {v : Value} {d : D} : At g (as ++ l) v d → d.lim as.length = true → At g as v d
  | .none, _ => .none
  | .bool b, _ => .bool b
  | .int i t, _ => .int i t
  | .str x t, _ => .str x t
  | .tup h r, e => .tup h (Ats.cut r (by simpa [D.lim] using e))
  | .lst h r, e => .lst h (Ats.cut r (by simpa [D.lim] using e))
  | .rng h, _ => .rng h
  | .ptr h, e => .ptr (cut_get h (by simpa [D.lim] using e))
  | .inst h k, e => .inst h (cut_get k (by simpa [D.lim] using e))
  | .obj h k r, e => .obj h k (Flds.cut r (by simpa [D.lim] using e))
  | .raw v, _ => .raw v
theorem Ats.cut {g : Im} {as l : List Addr} {vs : List Value} {ds : List D} : Ats g (as ++ l) vs ds → D.lims as.length ds = true → Ats g as vs ds
  | .nil, _ => .nil
  | .cons h r, e => by simp only [D.lims, Bool.and_eq_true] at e; exact .cons (At.cut h e.1) (Ats.cut r e.2)
theorem Flds.cut {g : Im} {as l : List Addr} {es : List DictEntry} {fs : List (Str × D)} : Flds g (as ++ l) es fs → D.limF as.length fs = true → Flds g as es fs
  | .nil, _ => .nil
  | .cons h r, e => by simp only [D.limF, Bool.and_eq_true] at e; exact .cons (At.cut h e.1) (Flds.cut r e.2)
end
mutual
theorem D.lim_le {n k : Nat} (h : n ≤ k) : ∀ (d : D), d.lim n = true → d.lim k = true
  | .tup ds, e => by simp only [D.lim] at e ⊢; exact D.lims_le h ds e
  | .lst ds, e => by simp only [D.lim] at e ⊢; exact D.lims_le h ds e
  | .ptr j, e => by simp only [D.lim, decide_eq_true_eq] at e ⊢; omega
  | .inst _ j, e => by simp only [D.lim, decide_eq_true_eq] at e ⊢; omega
  | .obj _ fs, e => by simp only [D.lim] at e ⊢; exact D.limF_le h fs e
  | .none, _ => rfl
  | .bool _, _ => rfl
  | .int _, _ => rfl
  | .str _, _ => rfl
  | .rng .., _ => rfl
  | .raw _, _ => rfl
theorem D.lims_le {n k : Nat} (h : n ≤ k) : ∀ (ds : List D), D.lims n ds = true → D.lims k ds = true
  | [], _ => rfl
  | d :: ds, e => by simp only [D.lims, Bool.and_eq_true] at e ⊢; exact ⟨D.lim_le h d e.1, D.lims_le h ds e.2⟩
theorem D.limF_le {n k : Nat} (h : n ≤ k) : ∀ (ds : List (Str × D)), D.limF n ds = true → D.limF k ds = true
  | [], _ => rfl
  | (_, d) :: ds, e => by simp only [D.limF, Bool.and_eq_true] at e ⊢; exact ⟨D.lim_le h d e.1, D.limF_le h ds e.2⟩
end
theorem lims_iff {n : Nat} {ds : List D} : D.lims n ds = true ↔ ∀ d ∈ ds, d.lim n = true := by
  induction ds with
  | nil => simp [D.lims]
  | cons d ds ih => simp [D.lims, ih]

def MObj.lim (n : Nat) : MObj → Bool
  | .lst ds => D.lims n ds
  | .dct fs => D.limF n fs
  | .dead => true
theorem MAt.lim {g : Im} {as : List Addr} {h : Heap} {a : Addr} {m : MObj} (x : MAt g as h a m) : m.lim as.length = true := by
  cases m with
  | lst ds => obtain ⟨gn, vs, q, e', r⟩ := x; exact r.lim
  | dct fs => obtain ⟨gn, vs, q, e', r⟩ := x; exact r.lim
  | dead => rfl
theorem MAt.cut {g : Im} {as l : List Addr} {h : Heap} {a : Addr} {m : MObj} (x : MAt g (as ++ l) h a m) (e : m.lim as.length = true) : MAt g as h a m := by
  cases m with
  | lst ds => obtain ⟨gn, vs, q, e', r⟩ := x; exact ⟨gn, vs, q, e', r.cut e⟩
  | dct fs => obtain ⟨gn, vs, q, e', r⟩ := x; exact ⟨gn, vs, q, e', r.cut e⟩
  | dead => exact x

/-- the callee's own locations are let go at its end -/
theorem Fn_drop {f : Value} {ds : List D} {d : D} {ex : List MObj} (h : Fn C n f tr ds (tr1 ++ ex) d) (hl : tr1.length = tr.length) (hd : d.lim tr.length = true) (hp : ∀ (i : Nat) (m : MObj), tr1[i]? = some m → tr[i]? = some m ∨ m.lim tr.length = true) : Fn C n f tr ds tr1 d := fun A g as s vs L w hvs => by
  refine wpAny_mono (h A g as s vs L w hvs) (fun v s' p => ?_) fun _ _ h => h
  obtain ⟨g', as', G, w', ha⟩ := p
  obtain ⟨l, rfl⟩ := G.pre
  have hla : as.length = tr1.length := by rw [w.len, hl]
  refine ⟨g', as, ⟨G.sub, ⟨[], by simp⟩, G.keep, G.alive, G.fresh, fun b hb n => absurd hb n⟩, ⟨w'.ok, w'.base, w'.sub, w'.os, w'.gens, w.nod, hla, fun i a m hi hm => ?_⟩, ha.cut (by rw [w.len]; exact hd)⟩
  have := w'.mob i a m (pre_get hi) (by rw [List.getElem?_append_left (List.getElem?_eq_some_iff.mp hm).1]; exact hm)
  refine this.cut ?_
  rcases hp i m hm with h | h
  · exact (w.mob i a m hi h).lim
  · rw [w.len]; exact h
theorem Fn_drop0 {f : Value} {ds : List D} {d : D} {ex : List MObj} (h : Fn C n f tr ds (tr ++ ex) d) (hd : d.lim tr.length = true) : Fn C n f tr ds tr d := Fn_drop h rfl hd fun i m e => .inl e

/-- a location becomes immutable -/
inductive Frz (m : Nat) (x : D) : D → D → Prop
  | refl (d : D) : Frz m x d d
  | ptr : Frz m x (.ptr m) x
inductive Frzs (m : Nat) (x : D) : List D → List D → Prop
  | nil : Frzs m x [] []
  | cons {d d' ds ds'} : Frz m x d d' → Frzs m x ds ds' → Frzs m x (d :: ds) (d' :: ds')
inductive FrzF (m : Nat) (x : D) : List (Str × D) → List (Str × D) → Prop
  | nil : FrzF m x [] []
  | cons {y d d' ds ds'} : Frz m x d d' → FrzF m x ds ds' → FrzF m x ((y, d) :: ds) ((y, d') :: ds')
inductive FrzM (m : Nat) (x : D) : MObj → MObj → Prop
  | lst {ds ds'} : Frzs m x ds ds' → FrzM m x (.lst ds) (.lst ds')
  | dct {fs fs'} : FrzF m x fs fs' → FrzM m x (.dct fs) (.dct fs')
theorem Frzs.refl (m : Nat) (x : D) : ∀ ds, Frzs m x ds ds
  | [] => .nil
  | d :: ds => .cons (.refl d) (Frzs.refl m x ds)
theorem FrzF.refl (m : Nat) (x : D) : ∀ ds, FrzF m x ds ds
  | [] => .nil
  | (y, d) :: ds => .cons (.refl d) (FrzF.refl m x ds)
theorem Frzs.snoc {m : Nat} {x d d' : D} (h : Frz m x d d') : ∀ {ds ds' : List D}, Frzs m x ds ds' → Frzs m x (ds ++ [d]) (ds' ++ [d'])
  | [], _, .nil => .cons h .nil
  | _ :: ds, _, .cons a r => .cons a (Frzs.snoc h r)

theorem Frz.at_ {g : Im} {as : List Addr} {m : Nat} {x d d' : D} {a : Addr} (hm : as[m]? = some a) (ax : At g as (.ref a) x) (f : Frz m x d d') {v : Value} (h : At g as v d) : At g as v d' := by
  cases f with
  | refl => exact h
  | ptr => cases h with | ptr h => rw [hm] at h; cases h; exact ax
theorem Frzs.ats {g : Im} {as : List Addr} {m : Nat} {x : D} {a : Addr} (hm : as[m]? = some a) (ax : At g as (.ref a) x) : ∀ {ds ds' : List D} {vs : List Value}, Frzs m x ds ds' → Ats g as vs ds → Ats g as vs ds'
  | [], _, _, .nil, .nil => .nil
  | _ :: _, _, _, .cons f r, .cons h k => .cons (f.at_ hm ax h) (Frzs.ats hm ax r k)
theorem FrzF.flds {g : Im} {as : List Addr} {m : Nat} {x : D} {a : Addr} (hm : as[m]? = some a) (ax : At g as (.ref a) x) : ∀ {ds ds' : List (Str × D)} {es : List DictEntry}, FrzF m x ds ds' → Flds g as es ds → Flds g as es ds'
  | [], _, _, .nil, .nil => .nil
  | _ :: _, _, _, .cons f r, .cons h k => .cons (f.at_ hm ax h) (FrzF.flds hm ax r k)

theorem W.freeze {g0 g : Im} {as0 as : List Addr} {s0 s : Shared} {wr : Addr → Prop} (w : W C g as tr s) (G : Grow wr g0 as0 s0 g as s) {m : Nat} {ds : List D} (hm : tr[m]? = some (.lst ds)) (a : Addr) (ha : as[m]? = some a) :
    ∃ g', W C g' as (tr.set m .dead) s ∧ Grow wr g0 as0 s0 g' as s ∧ Sub g g' ∧ At g' as (.ref a) (.lst ds) ∧ (∀ b o, g' b = some o → g b = none → b = a) := by
  obtain ⟨gn, vs, q, e, hvs⟩ := w.lstAt ha hm
  have S := upd_sub (o := lstObj vs q) gn
  have hlt := (List.getElem?_eq_some_iff.mp ha).1
  refine ⟨upd g a (lstObj vs q), ⟨w.ok, fun b o' e => S b o' (w.base b o' e), fun b o' h => ?_, w.os, w.gens, w.nod, by simp [w.len], fun i b m' hb hm' => ?_⟩, ⟨G.sub.trans S, G.pre, G.keep, G.alive, fun b o' h n hb => ?_, G.newas⟩, S, .lst (upd_self _ _ _) ?_, fun b o' h n => ?_⟩
  · unfold upd at h
    split at h
    · rename_i q; subst q; cases h; exact e
    · exact w.sub b o' h
  · by_cases hi : m = i
    · subst hi
      rw [ha] at hb; cases hb
      rw [List.getElem?_set_self (by rw [← w.len]; exact hlt)] at hm'
      cases hm'
      show (s.heap.get? a).isSome = true
      rw [e]; rfl
    · rw [List.getElem?_set_ne hi] at hm'
      have hne : b ≠ a := fun h => by
        subst h
        exact hi ((List.getElem?_inj hlt w.nod).mp (ha.trans hb.symm))
      have := (w.mob i b m' hb hm').kept (h' := s.heap) (l := []) S (fun o e => e) (fun q => by unfold upd; rw [if_neg hne]; exact q)
      simpa using this
  · unfold upd at h
    split at h
    · rename_i q; subst q
      exact G.newas b (List.mem_of_getElem? ha) hb
    · exact G.fresh b o' h n hb
  · have := hvs.mono (l := []) S
    simpa using this
  · unfold upd at h
    split at h
    · assumption
    · rw [h] at n; cases n

/-- .. and another location speaks of it so -/
theorem W.respeak {g : Im} {as : List Addr} {s : Shared} (w : W C g as tr s) {m r : Nat} {x : D} {a : Addr} (ha : as[m]? = some a) (ax : At g as (.ref a) x) {M M' : MObj} (hr : tr[r]? = some M) (f : FrzM m x M M') : W C g as (tr.set r M') s := by
  refine ⟨w.ok, w.base, w.sub, w.os, w.gens, w.nod, by simp [w.len], fun i b m' hb hm' => ?_⟩
  by_cases hi : r = i
  · subst hi
    rw [List.getElem?_set_self (List.getElem?_eq_some_iff.mp hr).1] at hm'
    cases hm'
    have := w.mob r b M hb hr
    cases f with
    | lst f => obtain ⟨gn, vs, q, e, hvs⟩ := this; exact ⟨gn, vs, q, e, f.ats ha ax hvs⟩
    | dct f => obtain ⟨gn, vs, q, e, hvs⟩ := this; exact ⟨gn, vs, q, e, f.flds ha ax hvs⟩
  · rw [List.getElem?_set_ne hi] at hm'
    exact w.mob i b m' hb hm'

theorem Fm.sub {g g' : Im} {as : List Addr} {h : Heap} (F : Fm env g as Γ h) (S : Sub g g') (hn : ∀ b o, g' b = some o → g b = none → b ∈ as) : Fm env g' as Γ h := by
  have nog : ∀ b, g b = none → b ∉ as → g' b = none := fun b n hb => by
    cases e : g' b with
    | none => rfl
    | some o => exact absurd (hn b o e n) hb
  have mono : ∀ {v d}, At g as v d → At g' as v d := fun h => by have := h.mono (l := []) S; simpa using this
  obtain ⟨m, hns, hm⟩ := F.ns
  refine ⟨F.kind, F.glob, F.blt, ⟨m, hns, fun x d hx hk => ?_⟩, ⟨nog _ F.lfree.1 F.lfree.2, F.lfree.2⟩, fun x c hc => ?_, fun x d hx hk => ?_, F.apart⟩
  · obtain ⟨v, hv, a⟩ := hm x d hx hk; exact ⟨v, hv, mono a⟩
  · obtain ⟨h1, h2, h3, r⟩ := F.cfree x c hc; exact ⟨nog _ h1 h2, h2, h3, r⟩
  · obtain ⟨c, v, hc, hv, a⟩ := F.cell x d hx hk; exact ⟨c, v, hc, hv, mono a⟩

/-- a list that is done is frozen, one container speaks of it anew -/
theorem Ex_freeze_in {ss : List Stmt} {Γ1 : List (Str × D)} {m r : Nat} {ds : List D} {M M' : MObj} (h : Ex C n env Γ tr ss (.next Γ1 tr1)) (hm : tr1[m]? = some (.lst ds)) (hr : tr1[r]? = some M) (hmr : m ≠ r) (f : FrzM m (.lst ds) M M') :
    Ex C n env Γ tr ss (.next Γ1 ((tr1.set m .dead).set r M')) := fun A g as s L w F => by
  refine wpAny_mono (h A g as s L w F) (fun fl s' p => ?_) fun _ _ h => h
  obtain ⟨g', as', G, r'⟩ := p
  cases fl <;> first | exact r'.elim | skip
  obtain ⟨w', F'⟩ := r'
  have hlt : m < as'.length := by rw [w'.len]; exact (List.getElem?_eq_some_iff.mp hm).1
  obtain ⟨a, ha⟩ : ∃ a, as'[m]? = some a := ⟨_, List.getElem?_eq_getElem hlt⟩
  obtain ⟨g2, w2, G2, S, a2, hn⟩ := w'.freeze G hm a ha
  exact ⟨g2, as', G2, w2.respeak ha a2 (by rw [List.getElem?_set_ne hmr]; exact hr) f, F'.sub S fun b o e n => hn b o e n ▸ List.mem_of_getElem? ha⟩

theorem Ex_ret_freeze {ss : List Stmt} {m : Nat} {ds : List D} (h : Ex C n env Γ tr ss (.ret tr1 (.ptr m))) (hm : tr1[m]? = some (.lst ds)) : Ex C n env Γ tr ss (.ret (tr1.set m .dead) (.lst ds)) := fun A g as s L w F => by
  refine wpAny_mono (h A g as s L w F) (fun fl s' p => ?_) fun _ _ h => h
  obtain ⟨g', as', G, r'⟩ := p
  cases fl <;> first | exact r'.elim | skip
  obtain ⟨w', a'⟩ := r'
  cases a' with
  | @ptr _ a ha =>
  obtain ⟨g2, w2, G2, S, a2, hn⟩ := w'.freeze G hm a ha
  exact ⟨g2, as', G2, w2, a2⟩
/-- the same where the value stays, a container is turned -/
theorem Ex_ret_freeze_in {ss : List Stmt} {d : D} {m r : Nat} {ds : List D} {M M' : MObj} (h : Ex C n env Γ tr ss (.ret tr1 d)) (hm : tr1[m]? = some (.lst ds)) (hr : tr1[r]? = some M) (hmr : m ≠ r) (f : FrzM m (.lst ds) M M') :
    Ex C n env Γ tr ss (.ret ((tr1.set m .dead).set r M') d) := fun A g as s L w F => by
  refine wpAny_mono (h A g as s L w F) (fun fl s' p => ?_) fun _ _ h => h
  obtain ⟨g', as', G, r'⟩ := p
  cases fl <;> first | exact r'.elim | skip
  obtain ⟨w', a'⟩ := r'
  have hlt : m < as'.length := by rw [w'.len]; exact (List.getElem?_eq_some_iff.mp hm).1
  obtain ⟨a, ha⟩ : ∃ a, as'[m]? = some a := ⟨_, List.getElem?_eq_getElem hlt⟩
  obtain ⟨g2, w2, G2, S, a2, hn⟩ := w'.freeze G hm a ha
  have := a'.mono (l := []) S
  exact ⟨g2, as', G2, w2.respeak ha a2 (by rw [List.getElem?_set_ne hmr]; exact hr) f, by simpa using this⟩

/-- an object that is done -/
theorem Ex_ret_freeze_inst {ss : List Stmt} {m : Nat} {Cl : Addr} {fs : List (Str × D)} (h : Ex C n env Γ tr ss (.ret tr1 (.inst Cl m))) (hm : tr1[m]? = some (.dct fs)) : Ex C n env Γ tr ss (.ret (tr1.set m .dead) (.obj Cl fs)) := fun A g as s L w F => by
  refine wpAny_mono (h A g as s L w F) (fun fl s' p => ?_) fun _ _ h => h
  obtain ⟨g', as', G, r'⟩ := p
  cases fl <;> first | exact r'.elim | skip
  obtain ⟨w', a'⟩ := r'
  cases a' with
  | @inst _ _ a dx hg ha =>
  obtain ⟨gn, es, q, e, hf⟩ := w'.dctAt ha hm
  have S := upd_sub (o := dictOf es q) gn
  have hlt := (List.getElem?_eq_some_iff.mp ha).1
  have hf' := hf.mono (l := []) S
  refine ⟨upd g' dx (dictOf es q), as', ⟨G.sub.trans S, G.pre, G.keep, G.alive, fun b o' h n hb => ?_, G.newas⟩, ⟨w'.ok, fun b o' e => S b o' (w'.base b o' e), fun b o' h => ?_, w'.os, w'.gens, w'.nod, by simp [w'.len], fun i b m' hb hm' => ?_⟩, .obj (S _ _ hg) (upd_self _ _ _) (by simpa using hf')⟩
  · unfold upd at h
    split at h
    · rename_i q; subst q
      exact G.newas b (List.mem_of_getElem? ha) hb
    · exact G.fresh b o' h n hb
  · unfold upd at h
    split at h
    · rename_i q; subst q; cases h; exact e
    · exact w'.sub b o' h
  · by_cases hi : m = i
    · subst hi
      rw [ha] at hb; cases hb
      rw [List.getElem?_set_self (by rw [← w'.len]; exact hlt)] at hm'
      cases hm'
      show (s'.heap.get? dx).isSome = true
      rw [e]; rfl
    · rw [List.getElem?_set_ne hi] at hm'
      have hne : b ≠ dx := fun h => by
        subst h
        exact hi ((List.getElem?_inj hlt w'.nod).mp (ha.trans hb.symm))
      have := (w'.mob i b m' hb hm').kept (h' := s'.heap) (l := []) S (fun o e => e) (fun q => by unfold upd; rw [if_neg hne]; exact q)
      simpa using this
end


def fbody (k : Nat) : List Stmt := match PySem.Challenge.pw_no0505_01.main.body[k]? with
  | some (.FunctionDef _ _ b _ _ _ _ _ _ _) => b
  | _ => []
def fscope (k : Nat) : Scope := match PySem.Challenge.pw_no0505_01.main.body[k]? with
  | some (.FunctionDef _ _ _ _ _ _ s _ _ _) => s
  | _ => default

section
variable {C : Cx} {n : Nat} {env : Env} {Γ Γ1 Γ2 : List (Str × D)} {tr tr1 tr2 : List MObj}
def Wk : List (Str × D) → List (Str × D) → Prop
  | [], _ => True
  | p :: r, Γ => Γ.lookup p.1 = some p.2 ∧ Wk r Γ
theorem Wk.look : ∀ {Γ' Γ : List (Str × D)}, Wk Γ' Γ → ∀ x d, Γ'.lookup x = some d → Γ.lookup x = some d
  | p :: r, Γ, h, x, d, e => by
    rw [List.lookup_cons] at e
    cases hx : x == p.1 with
    | true => rw [hx] at e; cases e; rw [beq_iff_eq.mp hx]; exact h.1
    | false => rw [hx] at e; exact h.2.look x d e
theorem Ex_end (h : Wk Γ2 Γ) : Ex C n env Γ tr [] (.next Γ2 tr) := Ex_weaken Ex_nil h.look
theorem Tt_of {e : Expr} {b b' : Bool} (h : Tt C n env Γ tr e tr1 b) (e' : b = b') : Tt C n env Γ tr e tr1 b' := e' ▸ h
theorem Ev_of {e : Expr} {d d' : D} (h : Ev C n env Γ tr e tr1 d) (e' : d = d') : Ev C n env Γ tr e tr1 d' := e' ▸ h
theorem Ex_of {ss : List Stmt} {o o' : Out} (h : Ex C n env Γ tr ss o) (e' : o = o') : Ex C n env Γ tr ss o' := e' ▸ h

theorem look_head {x : Str} {d : D} {Γ : List (Str × D)} : List.lookup x ((x, d) :: Γ) = some d := List.lookup_cons_self
theorem look_tail {x y : Str} {d e : D} {Γ : List (Str × D)} (h : (x == y) = false) (k : List.lookup x Γ = some d) : List.lookup x ((y, e) :: Γ) = some d := by rw [List.lookup_cons, h]; exact k

def isVar (k : Option NameKind) : Bool := match k with
  | some .local => true
  | some .cell => true
  | _ => false
theorem Ev_name {x : Str} {pos : Pos} {d : D} (hl : Γ.lookup x = some d) (hk : isVar (env.kindOf x) = true) (hd : (x == ("__debug__" : Str)) = false) : Ev C n env Γ tr (.Name x pos) tr d := by
  cases h : env.kindOf x with
  | none => rw [h] at hk; cases hk
  | some k =>
    rw [h] at hk
    cases k <;> first | exact Ev_local hl h hd | exact Ev_cell hl h hd | cases hk
def storesB (env : Env) (x : Str) : Bool := match env.kindOf x with
  | some .local => true
  | some .cell => (env.cells.lookup x).isSome
  | _ => false
theorem stores_of {x : Str} (h : storesB env x = true) : Stores env x := by
  unfold storesB at h
  split at h
  · exact .inl (by assumption)
  · exact .inr ⟨by assumption, h⟩
  · cases h

theorem Fn_ofΓ {a : Addr} {names : List Str} {body : List Stmt} {scope : Scope} {ds : List D} {d : D} (H : FnAt C a names body scope) (hlen : ds.length = names.length) (hΓ : names.zip ds = Γ)
    (hb : ∀ qual L code, Ex C n (fenv scope qual L a code) Γ tr body (.ret tr1 d)) : Fn C (n + 1) (.ref a) tr ds tr1 d := by
  subst hΓ; exact Fn_of H hlen hb

/-! the text's names -/
def CallOk (C : Cx) (x : Str) (f : Value) : Prop := (C.mg x = some f ∨ (C.mg x = none ∧ C.mb x = some f)) ∧ Kept C f
def DataOk (C : Cx) (x : Str) (d : D) : Prop := ∃ v, C.mg x = some v ∧ ∀ g as, (∀ b o, C.H0.get? b = some o → g b = some o) → At g as v d
theorem Ev_callN {x : Str} {p pos : Pos} {e : Expr} {rest : List Expr} {f : Value} {ds : List D} {d : D} (hx : CallOk C x f) (hk : env.kindOf x = some .globalImplicit) (hd : (x == ("__debug__" : Str)) = false)
    (he : starEach (e :: rest) env = (false, eval e env) :: starEach rest env) (hp : (backTo pos (starEach rest env)).any (·.1) = false)
    (ha : Evs C n env Γ tr pos (e :: rest) tr1 ds) (hc : Fn C n f tr1 ds tr2 d) : Ev C n env Γ tr (.Call (.Name x p) (e :: rest) [] pos) tr2 d := by
  rcases hx with ⟨hx | hx, hK⟩
  · exact Ev_call (Ev_global hx hk hd) ha hc hK he hp
  · exact Ev_call (Ev_builtin hx.1 hx.2 hk hd) ha hc hK he hp
theorem Ev_data {x : Str} {pos : Pos} {d : D} (hx : DataOk C x d) (hk : env.kindOf x = some .globalImplicit) (hd : (x == ("__debug__" : Str)) = false) : Ev C n env Γ tr (.Name x pos) tr d := by
  obtain ⟨v, hv, ha⟩ := hx
  exact Ev_globalD hv hk hd ha
end

/-! statements in a row -/
section
variable {C : Cx} {n : Nat} {env : Env} {Γ Γ1 Γ2 : List (Str × D)} {tr tr1 tr2 tr3 : List MObj} {rest : List Stmt} {o : Out}
theorem Ex_if_ret {test : Expr} {body orelse : List Stmt} {pos : Pos} {d : D} (ht : Tt C n env Γ tr test tr1 true) (h : Ex C n env Γ tr1 body (.ret tr2 d)) : Ex C n env Γ tr (.If test body orelse pos :: rest) (.ret tr2 d) :=
  Ex_ret (Ex1_if ht (by simpa using h))
theorem Ex_if_next {test : Expr} {body orelse : List Stmt} {pos : Pos} (ht : Tt C n env Γ tr test tr1 true) (h : Ex C n env Γ tr1 body (.next Γ1 tr2)) (k : Ex C n env Γ1 tr2 rest o) : Ex C n env Γ tr (.If test body orelse pos :: rest) o :=
  Ex_cons (Ex1_if ht (by simpa using h)) k
theorem Ex_if_skip {test : Expr} {body : List Stmt} {pos : Pos} (ht : Tt C n env Γ tr test tr1 false) (k : Ex C n env Γ tr1 rest o) : Ex C n env Γ tr (.If test body [] pos :: rest) o :=
  Ex_cons (Ex1_if ht (by simpa using Ex_nil)) k
theorem Ex_if_else {test : Expr} {body orelse : List Stmt} {pos : Pos} (ht : Tt C n env Γ tr test tr1 false) (h : Ex C n env Γ tr1 orelse (.next Γ1 tr2)) (k : Ex C n env Γ1 tr2 rest o) : Ex C n env Γ tr (.If test body orelse pos :: rest) o :=
  Ex_cons (Ex1_if ht (by simpa using h)) k
theorem Ex_if_join {test : Expr} {body : List Stmt} {pos : Pos} {b : Bool} (ht : Tt C n env Γ tr test tr1 b) (h1 : b = true → Ex C n env Γ tr1 body (.next Γ1 tr2)) (h0 : b = false → Wk Γ1 Γ ∧ tr1 = tr2) (k : Ex C n env Γ1 tr2 rest o) : Ex C n env Γ tr (.If test body [] pos :: rest) o := by
  refine Ex_cons (Ex1_if ht ?_) k
  cases b
  · obtain ⟨h, rfl⟩ := h0 rfl
    simpa using Ex_end h
  · simpa using h1 rfl
theorem Ex_assign {x : Str} {xp pos : Pos} {value : Expr} {d : D} (h : Ev C n env Γ tr value tr1 d) (hk : storesB env x = true) (hs : swapsWith value (some (.Name x xp)) pos.line env = pure false) (k : Ex C n env ((x, d) :: Γ) tr1 rest o) :
    Ex C n env Γ tr (.Assign [.Name x xp] value pos :: rest) o := Ex_cons (Ex1_assign h (stores_of hk) hs) k
theorem Ex_return {e : Expr} {pos : Pos} {d : D} (h : Ev C n env Γ tr e tr1 d) : Ex C n env Γ tr (.Return (some e) pos :: rest) (.ret tr1 d) := Ex_ret (Ex1_return h)
theorem Fn_of_eq {f : Value} {ds : List D} {d d' : D} (h : Fn C n f tr ds tr1 d) (e : d = d') : Fn C n f tr ds tr1 d' := e ▸ h
end

/-- a fraction -/
def frq (q : Rat) : D := .tup [.int q.num, .int q.den]
/-- NaN, Inf, -Inf -/
def infD (i : Int) : D := .tup [.int i, .int 0]

def ibody : List Stmt := match (PySem.Challenge.pw_no0505_01.main.body[(18 : Nat)]? : Option Stmt) with
  | some (.ClassDef _ _ _ [.FunctionDef _ _ b _ _ _ _ _ _ _] _ _ _ _ _ _ _) => b
  | _ => []
def iscope : Scope := match (PySem.Challenge.pw_no0505_01.main.body[(18 : Nat)]? : Option Stmt) with
  | some (.ClassDef _ _ _ [.FunctionDef _ _ _ _ _ _ s _ _ _] _ _ _ _ _ _ _) => s
  | _ => default
def fitNames : List Str := ["pivots", "bases", "norms", "shares", "steps", "coefficients", "fitted", "residuals", "weights", "rank", "df"]

structure Addrs where
  (f_gcd f_make f_is_na f_is_finite f_marked f_neg f_add f_sub f_mul f_div f_weighted f_dot f_less_multiple f_check_finite f_check_weights f_orthogonal f_back_coefficients f_used_rows f_fit f_rss f_hat_rows f_leverages f_inverse_shares f_unscaled_covariance f_variance f_covariance f_f_value f_law_pick f_law_low f_law_add f_law_mul f_law_dot f_law_value f_law_times f_law Cl f_init : Addr)

structure Glob (C : Cx) (a : Addrs) : Prop where
  c_gcd : CallOk C "gcd" (.ref a.f_gcd)
  d_gcd : FnAt C a.f_gcd ["a", "b"] (fbody 5) (fscope 5)
  c_make : CallOk C "make" (.ref a.f_make)
  d_make : FnAt C a.f_make ["n", "d"] (fbody 6) (fscope 6)
  c_is_na : CallOk C "is_na" (.ref a.f_is_na)
  d_is_na : FnAt C a.f_is_na ["x"] (fbody 7) (fscope 7)
  c_is_finite : CallOk C "is_finite" (.ref a.f_is_finite)
  d_is_finite : FnAt C a.f_is_finite ["x"] (fbody 8) (fscope 8)
  c_marked : CallOk C "marked" (.ref a.f_marked)
  d_marked : FnAt C a.f_marked ["x", "y"] (fbody 9) (fscope 9)
  c_neg : CallOk C "neg" (.ref a.f_neg)
  d_neg : FnAt C a.f_neg ["x"] (fbody 10) (fscope 10)
  c_add : CallOk C "add" (.ref a.f_add)
  d_add : FnAt C a.f_add ["x", "y"] (fbody 11) (fscope 11)
  c_sub : CallOk C "sub" (.ref a.f_sub)
  d_sub : FnAt C a.f_sub ["x", "y"] (fbody 12) (fscope 12)
  c_mul : CallOk C "mul" (.ref a.f_mul)
  d_mul : FnAt C a.f_mul ["x", "y"] (fbody 13) (fscope 13)
  c_div : CallOk C "div" (.ref a.f_div)
  d_div : FnAt C a.f_div ["x", "y"] (fbody 14) (fscope 14)
  c_weighted : CallOk C "weighted" (.ref a.f_weighted)
  d_weighted : FnAt C a.f_weighted ["values", "weights"] (fbody 19) (fscope 19)
  c_dot : CallOk C "dot" (.ref a.f_dot)
  d_dot : FnAt C a.f_dot ["u", "v"] (fbody 20) (fscope 20)
  c_less_multiple : CallOk C "less_multiple" (.ref a.f_less_multiple)
  d_less_multiple : FnAt C a.f_less_multiple ["u", "factor", "v"] (fbody 21) (fscope 21)
  c_check_finite : CallOk C "check_finite" (.ref a.f_check_finite)
  d_check_finite : FnAt C a.f_check_finite ["column", "name"] (fbody 22) (fscope 22)
  c_check_weights : CallOk C "check_weights" (.ref a.f_check_weights)
  d_check_weights : FnAt C a.f_check_weights ["weights", "count"] (fbody 23) (fscope 23)
  c_orthogonal : CallOk C "orthogonal" (.ref a.f_orthogonal)
  d_orthogonal : FnAt C a.f_orthogonal ["columns", "weights"] (fbody 24) (fscope 24)
  c_back_coefficients : CallOk C "back_coefficients" (.ref a.f_back_coefficients)
  d_back_coefficients : FnAt C a.f_back_coefficients ["fitted"] (fbody 25) (fscope 25)
  c_used_rows : CallOk C "used_rows" (.ref a.f_used_rows)
  d_used_rows : FnAt C a.f_used_rows ["count", "weights"] (fbody 26) (fscope 26)
  c_fit : CallOk C "fit" (.ref a.f_fit)
  d_fit : FnAt C a.f_fit ["columns", "y", "weights"] (fbody 27) (fscope 27)
  c_rss : CallOk C "rss" (.ref a.f_rss)
  d_rss : FnAt C a.f_rss ["found"] (fbody 28) (fscope 28)
  c_hat_rows : CallOk C "hat_rows" (.ref a.f_hat_rows)
  d_hat_rows : FnAt C a.f_hat_rows ["found", "count"] (fbody 29) (fscope 29)
  c_leverages : CallOk C "leverages" (.ref a.f_leverages)
  d_leverages : FnAt C a.f_leverages ["found", "count"] (fbody 30) (fscope 30)
  c_inverse_shares : CallOk C "inverse_shares" (.ref a.f_inverse_shares)
  d_inverse_shares : FnAt C a.f_inverse_shares ["found"] (fbody 31) (fscope 31)
  c_unscaled_covariance : CallOk C "unscaled_covariance" (.ref a.f_unscaled_covariance)
  d_unscaled_covariance : FnAt C a.f_unscaled_covariance ["found"] (fbody 32) (fscope 32)
  c_variance : CallOk C "variance" (.ref a.f_variance)
  d_variance : FnAt C a.f_variance ["found"] (fbody 33) (fscope 33)
  c_covariance : CallOk C "covariance" (.ref a.f_covariance)
  d_covariance : FnAt C a.f_covariance ["found"] (fbody 34) (fscope 34)
  c_f_value : CallOk C "f_value" (.ref a.f_f_value)
  d_f_value : FnAt C a.f_f_value ["square", "df", "rest", "rest_df"] (fbody 35) (fscope 35)
  c_law_pick : CallOk C "_law_pick" (.ref a.f_law_pick)
  d_law_pick : FnAt C a.f_law_pick ["hand", "limit"] (fbody 37) (fscope 37)
  c_law_low : CallOk C "_law_low" (.ref a.f_law_low)
  d_law_low : FnAt C a.f_law_low ["n", "d"] (fbody 38) (fscope 38)
  c_law_add : CallOk C "_law_add" (.ref a.f_law_add)
  d_law_add : FnAt C a.f_law_add ["x", "y"] (fbody 39) (fscope 39)
  c_law_mul : CallOk C "_law_mul" (.ref a.f_law_mul)
  d_law_mul : FnAt C a.f_law_mul ["x", "y"] (fbody 40) (fscope 40)
  c_law_dot : CallOk C "_law_dot" (.ref a.f_law_dot)
  d_law_dot : FnAt C a.f_law_dot ["u", "v"] (fbody 41) (fscope 41)
  c_law_value : CallOk C "_law_value" (.ref a.f_law_value)
  d_law_value : FnAt C a.f_law_value ["hand"] (fbody 42) (fscope 42)
  c_law_times : CallOk C "_law_times" (.ref a.f_law_times)
  d_law_times : FnAt C a.f_law_times ["rows", "column"] (fbody 43) (fscope 43)
  c_law : CallOk C "law" (.ref a.f_law)
  d_law : FnAt C a.f_law ["script"] (fbody 44) (fscope 44)
  c_len : CallOk C "len" (.builtin "len")
  c_abs : CallOk C "abs" (.builtin "abs")
  c_max : CallOk C "max" (.builtin "max")
  c_sum : CallOk C "sum" (.builtin "sum")
  c_range : CallOk C "range" (.type "range")
  c_list : CallOk C "list" (.type "list")
  c_Fit : CallOk C "Fit" (.ref a.Cl)
  fields : ∀ x ∈ fitNames, ClsOk C a.Cl x
  makes : makesIn C.K a.Cl = true
  init : findIn C.K (.ref a.Cl) "__init__" = some (some (.ref a.f_init))
  initFn : typeIn C.K (.ref a.f_init) = some (.type "function")
  d_init : FnAt C a.f_init ["self", "pivots", "bases", "norms", "shares"] ibody iscope
  v_ZERO : DataOk C "ZERO" (frq 0)
  v_ONE : DataOk C "ONE" (frq 1)
  v_NAN : DataOk C "NAN" (infD 0)



section
variable {C : Cx} {n : Nat} {env : Env} {Γ Γ1 Γ2 : List (Str × D)} {tr tr1 tr2 tr3 : List MObj} {rest : List Stmt} {o : Out}

theorem Fn_ofN {a : Addr} {names : List Str} {body : List Stmt} {scope : Scope} {ds : List D} (H : FnAt C a names body scope) (hlen : ds.length = names.length) (hΓ : names.zip ds = Γ)
    (hb : ∀ qual L code, Ex C n (fenv scope qual L a code) Γ tr body (.next Γ1 tr1)) : Fn C (n + 1) (.ref a) tr ds tr1 .none := by
  subst hΓ
  exact fun A g as s vs L w hvs => by
    refine wpAny_call (code_of H hlen hb L.room (fun env he => L.deeper he) w hvs fun v s' f h => ?_)
    obtain ⟨g', as', G, r⟩ := h
    cases f <;> first | exact r.elim | skip
    obtain ⟨rfl, w'⟩ := r
    exact ⟨g', as', G, w', .none⟩

theorem Ex1_exprE {e : Expr} {pos : Pos} (h : Ev C n env Γ tr e tr1 .none) (hi : interactive env = false) (hs : swapsWith e none pos.line env = pure false) : Ex1 C n env Γ tr (.Expr e pos) (.next Γ tr1) :=
  fun A g as s L w F => wpAny_Expr (wpAny_mono (h A g as s L w F) (fun v s1 p1 => by
    obtain ⟨g1, as1, G1, w1, a1⟩ := p1
    cases a1
    exact ⟨g1, as1, G1.noW, w1, F.grow G1⟩) fun _ _ h => h) hi hs
theorem Ex_expr {e : Expr} {pos : Pos} (h : Ev C n env Γ tr e tr1 .none) (hi : interactive env = false) (hs : swapsWith e none pos.line env = pure false) (k : Ex C n env Γ tr1 rest o) : Ex C n env Γ tr (.Expr e pos :: rest) o :=
  Ex_cons (Ex1_exprE h hi hs) k

/-! blocks: a name of one's own, checked by computation -/
def blockB (scope : Scope) (env : Env) (x : Str) : Bool :=
  scope.kind == .function && (scope.names.all fun p => p.2 != NameKind.free || (env.cells.lookup p.1).isSome) && (scope.names.all fun p => p.2 != NameKind.local || scope.names.lookup p.1 == some NameKind.local) && scope.names.lookup x == some NameKind.local
theorem block_of {scope : Scope} {x : Str} (h : blockB scope env x = true) : BlockOk scope env x := by
  unfold blockB at h
  simp only [Bool.and_eq_true, beq_iff_eq] at h
  obtain ⟨⟨⟨h1, h2⟩, h3⟩, h4⟩ := h
  refine ⟨h1, fun p hp hf => ?_, fun p hp hf => ?_, .inl h4⟩
  · have := List.all_eq_true.mp h2 p hp
    rw [hf] at this; simpa using this
  · have := List.all_eq_true.mp h3 p hp
    rw [hf] at this; simpa using this
/-- .. where the name is a cell -/
def blockC (scope : Scope) (env : Env) (x : Str) : Bool :=
  scope.kind == .function && (scope.names.all fun p => p.2 != NameKind.free || (env.cells.lookup p.1).isSome) && (scope.names.all fun p => p.2 != NameKind.local || scope.names.lookup p.1 == some NameKind.local) && scope.names.lookup x == some NameKind.cell
theorem blockC_of {scope : Scope} {x : Str} (h : blockC scope env x = true) (k : Nat) (hk : ∀ L, (cellsFrom (L + 1) scope.names (clos env scope.names [])).lookup x = some (L + 1 + k)) : BlockOk scope env x := by
  unfold blockC at h
  simp only [Bool.and_eq_true, beq_iff_eq] at h
  obtain ⟨⟨⟨h1, h2⟩, h3⟩, h4⟩ := h
  refine ⟨h1, fun p hp hf => ?_, fun p hp hf => ?_, .inr ⟨h4, fun L => ⟨k, hk L⟩⟩⟩
  · have := List.all_eq_true.mp h2 p hp
    rw [hf] at this; simpa using this
  · have := List.all_eq_true.mp h3 p hp
    rw [hf] at this; simpa using this

/-! ranges -/
theorem range'_one (a : Int) : ∀ k : Nat, range' a 1 k = (List.range k).map fun (i : Nat) => a + i := fun k => by
  apply List.ext_getElem?
  intro i
  by_cases h : i < k
  · rw [range'_get a 1 k i h]; simp [h]
  · rw [List.getElem?_eq_none (by rw [range'_length]; omega), List.getElem?_eq_none (by simp; omega)]
def rngInts (N : Nat) : List D := (List.range N).map fun (i : Nat) => .int i
theorem src_range {N : Nat} (h : N ≤ 1000000) : Src (.rng 0 N 1) (rngInts N) := by
  have e : Builtin.Range.rangeSize 0 (N : Int) 1 = N := by rw [rangeSize_one]; split <;> omega
  refine .inr ⟨0, N, 1, rfl, ?_, by rw [e]; omega, small_one (by omega) (by omega) (by omega) (by omega)⟩
  rw [e, Int.toNat_natCast, range'_one]
  simp [rngInts]
theorem rngInts_len {N : Nat} : (rngInts N).length = N := by simp [rngInts]
theorem rngInts_get {N k : Nat} {e : D} (h : (rngInts N)[k]? = some e) : k < N ∧ e = .int k := by
  have hk : k < N := by
    have := (List.getElem?_eq_some_iff.mp h).1
    rwa [rngInts_len] at this
  refine ⟨hk, ?_⟩
  simp [rngInts, hk] at h; exact h.symm
/-- from a to b -/
theorem src_range2 {a b : Nat} (h : b ≤ 1000000) (hab : a ≤ b) : Src (.rng a b 1) ((List.range (b - a)).map fun (i : Nat) => D.int ((a + i : Nat) : Int)) := by
  have e : Builtin.Range.rangeSize (a : Int) (b : Int) 1 = (b - a : Nat) := by rw [rangeSize_one]; split <;> omega
  refine .inr ⟨a, b, 1, rfl, ?_, by rw [e]; omega, small_one (by omega) (by omega) (by omega) (by omega)⟩
  rw [e, Int.toNat_natCast, range'_one]
  simp
/-- downward from a - 1 to 0 -/
theorem range'_down (a : Int) : ∀ k : Nat, range' a (-1) k = (List.range k).map fun (i : Nat) => a - i := fun k => by
  apply List.ext_getElem?
  intro i
  by_cases h : i < k
  · rw [range'_get a (-1) k i h]; simp [h]; omega
  · rw [List.getElem?_eq_none (by rw [range'_length]; omega), List.getElem?_eq_none (by simp; omega)]
theorem src_down {N : Nat} (h : N ≤ 1000000) : Src (.rng ((N : Int) - 1) (-1) (-1)) ((List.range N).map fun (i : Nat) => D.int ((N - 1 - i : Nat) : Int)) := by
  have e : Builtin.Range.rangeSize ((N : Int) - 1) (-1) (-1) = N := by
    unfold Builtin.Range.rangeSize
    simp only [show ¬ ((-1 : Int) > 0) by decide, if_false]
    split
    · simp
    · omega
  refine .inr ⟨(N : Int) - 1, -1, -1, rfl, ?_, by rw [e]; omega, ?_⟩
  · rw [e, Int.toNat_natCast, range'_down]
    rw [List.map_map]
    apply List.map_congr_left
    intro i hi
    have := List.mem_range.mp hi
    simp only [Function.comp]
    congr 1; omega
  · unfold Builtin.Range.small
    rw [e]
    simp only [Builtin.Range.rangeFitsLong, Bool.and_eq_true, Bool.or_eq_true, decide_eq_true_eq, beq_iff_eq, show ¬ ((-1 : Int) > 0) by decide, if_false]
    omega

theorem Ev_compR {elt iter : Expr} {x : Str} {px pos : Pos} {scope : Scope} {N : Nat} (out : Nat → D) (trs : Nat → List MObj) (Γ0 : List (Str × D))
    (hi : Ev C n env Γ tr iter (trs 0) (.rng 0 N 1)) (hN : N ≤ 1000000) (B : blockB scope env x = true) (hΓ : Wk Γ0 (visible scope env Γ))
    (step : ∀ k, k < N → ∀ Lc, Ev C n (cenvOf scope env Lc) ((x, .int k) :: Γ0) (trs k) elt (trs (k + 1)) (out k))
    (hs : ∀ v, foldedSetIterable iter env v = pure v) :
    Ev C n env Γ tr (.ListComp elt [⟨.Name x px, iter, [], 0⟩] scope pos) (trs N) (.lst ((List.range N).map out)) := by
  have := Ev_comp (elt := elt) (px := px) (pos := pos) (ifs := []) ((List.range N).map out) trs hi (src_range hN) (block_of B) (by simp [rngInts]) (by rw [rngInts_len]; exact hN) (fun k e o he ho Lc => ?_) hs
  · rw [rngInts_len] at this; exact this
  · obtain ⟨hk, rfl⟩ := rngInts_get he
    simp [hk] at ho
    subst ho
    refine ⟨(fun _ h => nomatch h), Ev_pre (step k hk Lc) fun y d hy => ?_⟩
    rw [List.lookup_cons] at hy ⊢
    cases hyx : y == x with
    | true => rw [hyx] at hy; exact hy
    | false => rw [hyx] at hy; exact hΓ.look y d hy
theorem Ex_compR {elt iter : Expr} {x y : Str} {px py pos pos2 : Pos} {scope : Scope} {N : Nat} (out : Nat → D) (trs : Nat → List MObj) (Γ0 : List (Str × D))
    (hi : Ev C n env Γ tr iter (trs 0) (.rng 0 N 1)) (hN : N ≤ 1000000) (B : blockB scope env x = true) (hΓ : Wk Γ0 (visible scope env Γ))
    (step : ∀ k, k < N → ∀ Lc, Ev C n (cenvOf scope env Lc) ((x, .int k) :: Γ0) (trs k) elt (trs (k + 1)) (out k))
    (hs : ∀ v, foldedSetIterable iter env v = pure v) (hk : storesB env y = true)
    (hsw : swapsWith (.ListComp elt [⟨.Name x px, iter, [], 0⟩] scope pos) (some (.Name y py)) pos2.line env = pure true)
    (k : Ex C n env ((y, .lst ((List.range N).map out)) :: Γ) (trs N) rest o) :
    Ex C n env Γ tr (.Assign [.Name y py] (.ListComp elt [⟨.Name x px, iter, [], 0⟩] scope pos) pos2 :: rest) o := by
  have := Ex1_assign_comp (elt := elt) (px := px) (py := py) (pos := pos) (pos2 := pos2) (ifs := []) ((List.range N).map out) trs hi (src_range hN) (block_of B) (by simp [rngInts]) (by rw [rngInts_len]; exact hN) (fun k e o he ho Lc => ?_) hs (stores_of hk) hsw
  · rw [rngInts_len] at this; exact Ex_cons this k
  · obtain ⟨hk, rfl⟩ := rngInts_get he
    simp [hk] at ho
    subst ho
    refine ⟨(fun _ h => nomatch h), Ev_pre (step k hk Lc) fun y d hy => ?_⟩
    rw [List.lookup_cons] at hy ⊢
    cases hyx : y == x with
    | true => rw [hyx] at hy; exact hy
    | false => rw [hyx] at hy; exact hΓ.look y d hy
theorem Ex_forR {x : Str} {xp pos : Pos} {iter : Expr} {body : List Stmt} {N : Nat} (hi : Ev C n env Γ tr iter tr1 (.rng 0 N 1)) (hN : N ≤ 1000000) (Γs : Nat → List (Str × D)) (trs : Nat → List MObj)
    (h0 : trs 0 = tr1) (g0 : Wk (Γs 0) Γ) (step : ∀ k, k < N → Ex C n env ((x, .int k) :: Γs k) (trs k) body (.next (Γs (k + 1)) (trs (k + 1)))) (hk : storesB env x = true)
    (hs : ∀ v, foldedSetIterable iter env v = pure v) (k : Ex C n env (Γs N) (trs N) rest o) :
    Ex C n env Γ tr (.For (.Name x xp) iter body [] pos :: rest) o := by
  have := Ex1_for (xp := xp) (pos := pos) (body := body) hi (src_range hN) Γs trs h0 g0.look (fun k e he => ?_) (stores_of hk) hs
  · rw [rngInts_len] at this; exact Ex_cons this k
  · obtain ⟨hk, rfl⟩ := rngInts_get he
    exact step k hk
/-- over a list -/
theorem Ex_forL {x : Str} {xp pos : Pos} {iter : Expr} {body : List Stmt} {ds : List D} (hi : Ev C n env Γ tr iter tr1 (.lst ds)) (Γs : Nat → List (Str × D)) (trs : Nat → List MObj)
    (h0 : trs 0 = tr1) (g0 : Wk (Γs 0) Γ) (step : ∀ k e, ds[k]? = some e → Ex C n env ((x, e) :: Γs k) (trs k) body (.next (Γs (k + 1)) (trs (k + 1)))) (hk : storesB env x = true)
    (hs : ∀ v, foldedSetIterable iter env v = pure v) (k : Ex C n env (Γs ds.length) (trs ds.length) rest o) :
    Ex C n env Γ tr (.For (.Name x xp) iter body [] pos :: rest) o :=
  Ex_cons (Ex1_for (xp := xp) (pos := pos) hi (.inl rfl) Γs trs h0 g0.look step (stores_of hk) hs) k
theorem Ev_compL {elt iter : Expr} {x : Str} {px pos : Pos} {ifs : List Expr} {scope : Scope} {ds : List D} (outs : List D) (trs : Nat → List MObj) (Γ0 : List (Str × D))
    (hi : Ev C n env Γ tr iter (trs 0) (.lst ds)) (hN : ds.length ≤ 1000000) (B : blockB scope env x = true) (hΓ : Wk Γ0 (visible scope env Γ)) (hlen : outs.length = ds.length)
    (step : ∀ k e o, ds[k]? = some e → outs[k]? = some o → ∀ Lc, (∀ c ∈ ifs, Tt C n (cenvOf scope env Lc) ((x, e) :: Γ0) (trs k) c (trs k) true) ∧ Ev C n (cenvOf scope env Lc) ((x, e) :: Γ0) (trs k) elt (trs (k + 1)) o)
    (hs : ∀ v, foldedSetIterable iter env v = pure v) :
    Ev C n env Γ tr (.ListComp elt [⟨.Name x px, iter, ifs, 0⟩] scope pos) (trs ds.length) (.lst outs) :=
  Ev_comp (px := px) (pos := pos) (ifs := ifs) outs trs hi (.inl rfl) (block_of B) hlen hN (fun k e o he ho Lc => by
    have w : ∀ y d, List.lookup y ((x, e) :: Γ0) = some d → List.lookup y ((x, e) :: visible scope env Γ) = some d := fun y d hy => by
      rw [List.lookup_cons] at hy ⊢
      cases hyx : y == x with
      | true => rw [hyx] at hy; exact hy
      | false => rw [hyx] at hy; exact hΓ.look y d hy
    exact ⟨fun c hc A g as s L ww F => (step k e o he ho Lc).1 c hc A g as s L ww (F.weaken w), Ev_pre (step k e o he ho Lc).2 w⟩) hs

/-! lists of fractions -/
end
def lstF (us : List Rat) : D := .lst (us.map frq)
def lstFF (us : List (List Rat)) : D := .lst (us.map lstF)
def lstN (us : List Nat) : D := .lst (us.map fun (n : Nat) => .int (n : Int))
theorem nth_map {α : Type} (f : α → D) (d : α) {us : List α} {k : Nat} (h : k < us.length) : nth (us.map f) (k : Int) = some (f (us.getD k d)) := by
  unfold nth
  rw [if_pos (by omega)]
  simp [h, List.getD]
theorem idx_lstF {tr : List MObj} {us : List Rat} {k : Nat} (h : k < us.length) : idx tr (lstF us) (k : Int) = some (frq (us.getD k 0)) := nth_map frq 0 h
theorem idx_lstFF {tr : List MObj} {us : List (List Rat)} {k : Nat} (h : k < us.length) : idx tr (lstFF us) (k : Int) = some (lstF (us.getD k [])) := nth_map lstF [] h
theorem idx_lstN {tr : List MObj} {us : List Nat} {k : Nat} (h : k < us.length) : idx tr (lstN us) (k : Int) = some (.int (us.getD k 0 : Nat)) := nth_map (fun (n : Nat) => D.int (n : Int)) 0 h
theorem idx_frq0 {tr : List MObj} {q : Rat} : idx tr (frq q) 0 = some (.int q.num) := rfl
theorem idx_frq1 {tr : List MObj} {q : Rat} : idx tr (frq q) 1 = some (.int q.den) := rfl
theorem lstF_range {N : Nat} {out : Nat → Rat} : D.lst ((List.range N).map fun k => frq (out k)) = lstF ((List.range N).map out) := by unfold lstF; rw [List.map_map]; rfl
section
variable {C : Cx} {n : Nat} {tr : List MObj}
theorem Fn_lenF {us : List Rat} (h : us.length ≤ 1000000) : Fn C n (.builtin "len") tr [lstF us] tr (.int us.length) := by
  have := Fn_len (C := C) (n := n) (tr := tr) (d := lstF us) (ds := us.map frq) (.inl rfl) (by simpa using h)
  simpa using this
theorem Fn_lenFF {us : List (List Rat)} (h : us.length ≤ 1000000) : Fn C n (.builtin "len") tr [lstFF us] tr (.int us.length) := by
  have := Fn_len (C := C) (n := n) (tr := tr) (d := lstFF us) (ds := us.map lstF) (.inl rfl) (by simpa using h)
  simpa using this
end


section
variable {C : Cx} {n : Nat} {env : Env} {Γ Γ1 Γ2 : List (Str × D)} {tr tr1 tr2 tr3 : List MObj} {rest : List Stmt} {o : Out}

/-- [..] * k as a new mutable location -/
theorem Op_mulListM {ds : List D} {k : Int} (h0 : 0 ≤ k) (hz : ds.length * k.toNat ≤ 1000) (hk : k ≤ 1000) {A : Around} {g : Im} {as : List Addr} {s : Shared} {v1 v2 : Value} (w : W C g as tr s) (a1 : At g as v1 (.lst ds)) (a2 : At g as v2 (.int k)) :
    wpAny (model C.prog C.w) A (binaryOp .Mult v1 v2) (Post C noW g as s (tr ++ [.lst (List.replicate k.toNat ds).flatten]) (.ptr tr.length)) noE s := by
    cases a2 with
    | int _ u =>
    cases a1 with
    | @lst a vs q ds ha hvs =>
    have hl := w.sub _ _ ha
    have hlen : vs.toArray.size * k.toNat ≤ 2 ^ 24 := by rw [List.size_toArray, hvs.length]; exact Nat.le_trans hz (by decide)
    refine wpAny_binaryOp_repeat_ref (T := "list") (U := "int") (by decide) ⟨_, hl, rfl⟩ (fun s' => typeIs_int s' k u) noFill_list_mul F.fills_int_mul F.slot_int_rmul repeat_list F.slot_int_index.lookup
      (call_meets F.slot_int_rmul (typeIs_int s k u) F.entry_int_rmul (F.args_int_rmul_2 _ _) (int___rmul___int_list k u a vs.toArray q)
        ⟨hl, rfl, ⟨_, hl, rfl⟩, call_meets F.slot_list_mul ⟨_, hl, rfl⟩ F.entry_list_mul (F.args_list_mul_2 _ _)
          (AutoListH.list___mul___list_int_3 a vs.toArray q k u (by simp [Builtin.List.listFitsIndex]; omega) (by omega) (by simp [Builtin.List.listTooLong, sizeLine]; simp at hlen; omega))
          ⟨hl, ?_⟩⟩)
    have key : ∀ j : Nat, (List.foldl (fun x1 x2 => x1 ++ x2) #[] (List.replicate j vs.toArray)) = ((List.replicate j vs).flatten).toArray := by
      have gen : ∀ (j : Nat) (acc : Array Value), (List.foldl (fun x1 x2 => x1 ++ x2) acc (List.replicate j vs.toArray)) = acc ++ ((List.replicate j vs).flatten).toArray := by
        intro j
        induction j with
        | zero => intro acc; simp
        | succ j ih => intro acc; simp only [List.replicate_succ, List.foldl_cons, ih, List.flatten_cons]; apply Array.ext'; simp
      intro j; rw [gen]; simp
    have ats : ∀ j : Nat, Ats g as (List.replicate j vs).flatten (List.replicate j ds).flatten := by
      intro j
      induction j with
      | zero => exact .nil
      | succ j ih => simp only [List.replicate_succ, List.flatten_cons]; exact hvs.append ih
    have eq1 : (List.foldl (fun x1 x2 => x1 ++ x2) #[] (List.replicate (if vs.toArray.isEmpty = true then 0 else k.toNat) vs.toArray)) = ((List.replicate k.toNat vs).flatten).toArray := by
      rw [key]
      split
      · rename_i he
        have : vs = [] := by simpa using he
        subst this; simp
      · rfl
    rw [eq1]
    have new : s.heap.get? s.heap.objs.size = none := Heap.get?_none_of_le (Nat.le_refl _)
    obtain ⟨w2, G2⟩ := w.loc (s' := { s with heap := s.heap.push (lstObj (List.replicate k.toNat vs).flatten 0) }) (a := s.heap.objs.size) (m := .lst (List.replicate k.toNat ds).flatten) (fun b o e => Heap.get?_push_of_some _ e) new ⟨w.gnone new, _, 0, Heap.get?_push_size _ rfl, (ats k.toNat).mono (Sub.refl _)⟩ rfl rfl
    exact ⟨_, _, G2, w2, .ptr (by rw [← w.len]; simp)⟩
theorem Ev_mulListM {l r : Expr} {pos : Pos} {ds : List D} {k : Int} (h1 : Ev C n env Γ tr l tr1 (.lst ds)) (h2 : Ev C n env Γ tr1 r tr2 (.int k)) (h0 : 0 ≤ k) (hz : ds.length * k.toNat ≤ 1000) (hk : k ≤ 1000) :
    Ev C n env Γ tr (.BinOp l .Mult r pos) (tr2 ++ [.lst (List.replicate k.toNat ds).flatten]) (.ptr tr2.length) :=
  fun A g as s L w F => wpAny_BinOp (wpAny_mono (h1 A g as s L w F) (fun v1 s1 p1 => by
    obtain ⟨g1, as1, G1, w1, a1⟩ := p1
    refine wpAny_mono (h2 A g1 as1 s1 L w1 (F.grow G1)) (fun v2 s2 p2 => ?_) fun _ _ h => h
    obtain ⟨g2, as2, G2, w2, a2⟩ := p2
    exact wpAny_mono (Op_mulListM h0 hz hk w2 (G2.at_ a1) a2) (fun v s3 p3 => Post.step (G1.trans G2) p3) fun _ _ h => h) fun _ _ h => h)

theorem ats_ints {g : Im} {as : List Addr} : ∀ {vs : List Value} {ns : List Int}, IntsAre vs ns → Ats g as vs (ns.map .int)
  | _, _, .nil => .nil
  | _, _, .cons n t h => .cons (.int n t) (ats_ints h)
/-- x[:k] of a list of ints -/
theorem Ev_slice {v up : Expr} {p pos : Pos} {ns : List Int} {k : Nat} (hv : Ev C n env Γ tr v tr1 (.lst (ns.map .int))) (hu : Ev C n env Γ tr1 up tr2 (.int k)) (hz : ns.length ≤ 1000000)
    (ht : ∀ o r, letTemporaryGo v o r = pure ()) : Ev C n env Γ tr (.Subscript v (.Slice none (some up) none p) pos) tr2 (.lst ((ns.take k).map .int)) :=
  fun A g as s L w F => wpAny_Subscript_list_slice (wpAny_mono (hv A g as s L w F) (fun o s1 p1 => by
    obtain ⟨g1, as1, G1, w1, a1⟩ := p1
    refine wpAny_evalPart_none ?_
    refine wpAny_evalPart_some (wpAny_mono (hu A g1 as1 s1 L w1 (F.grow G1)) (fun iv s2 p2 => ?_) fun _ _ h => h)
    obtain ⟨g2, as2, G2, w2, a2⟩ := p2
    cases a2 with
    | int _ t =>
    cases G2.at_ a1 with
    | @lst a vs q _ ha hvs =>
    have hi := ints_of hvs
    have hl : s2.heap.IsList a vs.toArray := ⟨_, w2.sub _ _ ha, rfl, q, rfl⟩
    have hlen := hvs.length
    simp only [List.length_map] at hlen
    refine ⟨a, vs.toArray, none, some k, rfl, hl, by rw [List.size_toArray, hlen, sizeLine_eq]; omega, .none, .int _ _, ?_⟩
    have hp := slice_ints_uptoW hi (y := (k : Int)) (by omega)
    rw [Int.toNat_natCast] at hp
    have e1 : slicePick vs.toArray none (some (k : Int)) none = (slicePick vs.toArray none (some (k : Int)) none).toList.toArray := rfl
    rw [e1]
    obtain ⟨w3, G3⟩ := w2.kept (s' := { s2 with heap := s2.heap.push { cls := .type "slice", data := .fields #[.none, .int k t, .none] } }) (fun b o e => Heap.get?_push_of_some _ e) rfl rfl
    have P := W.fresh w3 (s' := { s2 with heap := (s2.heap.push { cls := .type "slice", data := .fields #[.none, .int k t, .none] }).push (lstObj (slicePick vs.toArray none (some (k : Int)) none).toList 0) }) (o := lstObj (slicePick vs.toArray none (some (k : Int)) none).toList 0) (d := .lst ((ns.take k).map .int)) rfl rfl rfl rfl (.lst (upd_self _ _ _) ?_)
    · have := Post.step ((G1.trans G2).trans G3) P
      rw [Heap.size_push] at this
      exact this
    · exact ats_ints hp) fun _ _ h => h) ht

theorem eqGives_bool (a b : Bool) : MeetsSeq.EqGives (.bool a) (.bool b) (a == b) := fun prog w A E s Q h => by
  unfold eqBool
  show wpAny _ _ (if (Value.bool a == Value.bool b) = true then _ else _) Q E s
  by_cases hab : (Value.bool a == Value.bool b) = true
  · rw [if_pos hab]
    have e : a = b := by have := eq_of_beq hab; injection this
    subst e
    exact wpAny_bind (wpAny_rule (wpAny_pure (by simpa using h)))
  · rw [if_neg hab]
    exact wpAny_bind (PyProof.Rows.eq_bool (wpAny_truthy_bool h))

theorem Cmp_inF {ds : List D} (h : ∀ d ∈ ds, d = .bool false) : Cmp C n tr .In (.bool true) (.lst ds) false := fun A g as s v1 v2 L w a1 a2 => by
  cases a1
  cases a2 with
  | @lst a vs q _ ha hvs =>
  have hl : s.heap.IsList a vs.toArray := ⟨_, w.sub _ _ ha, rfl, q, rfl⟩
  have hall : ∀ y ∈ vs, y = .bool false := by
    clear hl ha
    induction ds generalizing vs with
    | nil => cases hvs; intro y hy; cases hy
    | cons d ds ih =>
      cases hvs with
      | cons a r =>
        intro y hy
        rcases List.mem_cons.mp hy with rfl | hy
        · rw [h d (.head _)] at a; cases a; rfl
        · exact ih (fun d hd => h d (.tail _ hd)) r y hy
  refine SeqInW.in_listW (fun _ => false) (fun y hy => ?_) hl ?_
  · rw [hall y (by simpa using hy)]; exact eqGives_bool false true
  · have : vs.toArray.any (fun _ => false) = false := by simp
    rw [this]; exact w.post (.bool _)

/-- what is said with no location is said beside any -/
theorem Fn_frame {f : Value} {ds : List D} {d : D} (h : Fn C n f [] ds [] d) (hds : D.lims 0 ds = true) : Fn C n f tr ds tr d := fun A g as s vs L w hvs => by
  have w0 : W C g [] [] s := ⟨w.ok, w.base, w.sub, w.os, w.gens, .nil, rfl, fun n a m h => by simp at h⟩
  refine wpAny_mono (h A g [] s vs L w0 (Ats.cut (as := []) (l := as) hvs hds)) (fun v s' p => ?_) fun _ _ h => h
  obtain ⟨g', as', G, w', ha⟩ := p
  have e' : as' = [] := List.eq_nil_of_length_eq_zero w'.len
  subst e'
  have gn : ∀ b, b ∈ as → g b = none → g' b = none := fun b hb n => by
    cases e : g' b with
    | none => rfl
    | some o =>
      have := w.notin (G.fresh b o e n (by simp))
      exact absurd hb this
  refine ⟨g', as, ⟨G.sub, ⟨[], by simp⟩, fun b o _ hw e => G.keep b o (by simp) hw e, G.alive, fun b o e n _ => G.fresh b o e n (by simp), fun b hb n => absurd hb n⟩, ⟨w'.ok, w'.base, w'.sub, w'.os, w'.gens, w.nod, w.len, fun i b m hb hm => ?_⟩, ?_⟩
  · have := (w.mob i b m hb hm).kept (l := []) G.sub (fun o e => G.keep b o (by simp) (fun h => h) e) (gn b (List.mem_of_getElem? hb))
    simpa using this
  · have := ha.mono (l := as) (Sub.refl g')
    simpa using this

theorem Fm.fewer {g : Im} {as l : List Addr} {h : Heap} (F : Fm env g (as ++ l) Γ h) (hΓ : ∀ p ∈ Γ, p.2.lim as.length = true) : Fm env g as Γ h := by
  obtain ⟨m, hn, hm⟩ := F.ns
  refine ⟨F.kind, F.glob, F.blt, ⟨m, hn, fun x d hx hk => ?_⟩, ⟨F.lfree.1, fun h => F.lfree.2 (List.mem_append_left _ h)⟩, fun x c hc => ?_, fun x d hx hk => ?_, F.apart⟩
  · obtain ⟨v, hv, a⟩ := hm x d hx hk
    exact ⟨v, hv, a.cut (hΓ _ (mem_of_lookup hx))⟩
  · obtain ⟨h1, h2, r⟩ := F.cfree x c hc
    exact ⟨h1, fun h => h2 (List.mem_append_left _ h), r⟩
  · obtain ⟨c, v, hc, hv, a⟩ := F.cell x d hx hk
    exact ⟨c, v, hc, hv, a.cut (hΓ _ (mem_of_lookup hx))⟩

/-- the last locations are let go -/
theorem Ex_drop {ss : List Stmt} {ex : List MObj} (h : Ex C n env Γ tr ss (.next Γ1 (tr1 ++ ex))) (hl : tr.length ≤ tr1.length) (hΓ : ∀ p ∈ Γ1, p.2.lim tr1.length = true) (hm : ∀ m ∈ tr1, m.lim tr1.length = true) : Ex C n env Γ tr ss (.next Γ1 tr1) := fun A g as s L w F => by
  refine wpAny_mono (h A g as s L w F) (fun fl s' p => ?_) fun _ _ h => h
  obtain ⟨g', as', G, r'⟩ := p
  cases fl <;> first | exact r'.elim | skip
  obtain ⟨w', F'⟩ := r'
  obtain ⟨l, rfl⟩ := G.pre
  have hlen := w'.len
  rw [List.length_append, List.length_append, w.len] at hlen
  obtain ⟨as1, l2, rfl, h1⟩ : ∃ l1 l2, l = l1 ++ l2 ∧ (as ++ l1).length = tr1.length := ⟨l.take (tr1.length - tr.length), l.drop (tr1.length - tr.length), by simp, by simp [w.len]; omega⟩
  rw [← List.append_assoc] at w' F' G
  refine ⟨g', as ++ as1, ⟨G.sub, ⟨as1, rfl⟩, G.keep, G.alive, G.fresh, fun b hb n => G.newas b (List.mem_append_left _ hb) n⟩, ⟨w'.ok, w'.base, w'.sub, w'.os, w'.gens, (List.nodup_append.mp w'.nod).1, h1, fun i b m hb hm' => ?_⟩, F'.fewer (by rw [h1]; exact hΓ)⟩
  have := w'.mob i b m (by rw [List.getElem?_append_left (List.getElem?_eq_some_iff.mp hb).1]; exact hb) (by rw [List.getElem?_append_left (List.getElem?_eq_some_iff.mp hm').1]; exact hm')
  exact this.cut (by rw [h1]; exact hm m (List.mem_of_getElem? hm'))

theorem under_new {A : Around} {Cl : Addr} {vs : List Value} : A.under (.builtin "type.__call__" ⟨.ref Cl :: vs, []⟩) = { A with depth := A.depth + 1, units := A.units + 1 } := by
  have h1 : (Code.builtin "type.__call__" ⟨.ref Cl :: vs, []⟩).frames = 0 := by kernel_rfl
  have h2 : (Code.builtin "type.__call__" ⟨.ref Cl :: vs, []⟩).isGuard = false := by kernel_rfl
  have h3 : (Code.builtin "type.__call__" ⟨.ref Cl :: vs, []⟩).isCaller = false := by kernel_rfl
  have h4 : (Code.builtin "type.__call__" ⟨.ref Cl :: vs, []⟩).isCreation = true := by kernel_rfl
  have h5 : (Code.builtin "type.__call__" ⟨.ref Cl :: vs, []⟩).envs = [] := by kernel_rfl
  have hw : (Code.builtin "type.__call__" ⟨.ref Cl :: vs, []⟩).weight = 1 := by unfold Code.weight; rw [h1, h2, h3, h4]; rfl
  have hu : (Code.builtin "type.__call__" ⟨.ref Cl :: vs, []⟩).cUnits = 1 := by
    show 1 + 3 * _ = 1
    rw [h1]
  have hg : (Code.builtin "type.__call__" ⟨.ref Cl :: vs, []⟩).guards = [] := by unfold Code.guards; rw [h2]; rfl
  unfold Around.under
  rw [hw, hu, h5, hg]
  rfl

/-- a class is called -/
theorem Fn_new {Cl fI : Addr} {names : List Str} {body : List Stmt} {scope : Scope} {ds : List D} (hm : makesIn C.K Cl = true) (hi : findIn C.K (.ref Cl) "__init__" = some (some (.ref fI))) (hf : typeIn C.K (.ref fI) = some (.type "function"))
    (H : FnAt C fI names body scope) (hlen : ds.length + 1 = names.length)
    (hb : ∀ qual L code, Ex C n (fenv scope qual L fI code) (names.zip (.inst Cl tr.length :: ds)) (tr ++ [.dct []]) body (.next Γ1 tr1)) : Fn C (n + 1) (.ref Cl) tr ds tr1 (.inst Cl tr.length) := fun A g as s vs L w hvs => by
  refine wpAny_call ?_
  obtain ⟨hh, gs, dr, t, os⟩ := s
  have X : C.K.In hh := w.ok.kin.keeps w.kept0
  refine make_core (makes_of X hm) (looks_findIn X hi) (fun self => bind_fn X self hf) (.inl rfl) ?_
  have hdx : hh.get? hh.objs.size = none := Heap.get?_none_of_le (Nat.le_refl _)
  obtain ⟨w1, G1⟩ := w.loc (s' := ⟨hh.push emptyDict, gs, dr, t, os⟩) (a := hh.objs.size) (m := .dct []) (fun b o e => Heap.get?_push_of_some _ e) hdx ⟨w.gnone hdx, [], 0, Heap.get?_push_size _ rfl, .nil⟩ rfl rfl
  obtain ⟨w2, G2⟩ := w1.add (s' := ⟨(hh.push emptyDict).push (instObj Cl hh.objs.size), gs, dr, t, os⟩) (a := (hh.push emptyDict).objs.size) (o := instObj Cl hh.objs.size) (fun b o e => Heap.get?_push_of_some _ e) (Heap.get?_none_of_le (Nat.le_refl _)) (Heap.get?_push_size _ rfl) rfl rfl
  have ax : At (upd g (hh.push emptyDict).objs.size (instObj Cl hh.objs.size)) (as ++ [hh.objs.size]) (.ref (hh.objs.size + 1)) (.inst Cl tr.length) := by
    refine At.inst ?_ (d := hh.objs.size) (by rw [← w.len]; simp)
    rw [Heap.size_push]; exact upd_self _ _ _
  have hlv : ∀ env, GoodE env → Lv n ((A.under (.builtin "type.__call__" ⟨.ref Cl :: vs, []⟩)).deeper env) := fun env he => by
    rw [under_new]
    exact ⟨L.1, by have := L.2.1; simp only [Around.deeper]; omega, by have := L.2.2.1; simp only [Around.deeper]; omega, by
      obtain ⟨e, l, hf, _⟩ := L.2.2.2
      exact ⟨env, e :: l, by simp only [Around.deeper, hf]; rfl, he⟩⟩
  refine code_of H (by simpa using hlen) hb (by rw [under_new]; have := L.2.1; show A.depth + 1 < _; unfold recursionLimit; omega) hlv w2 (.cons ax ((G1.trans G2).ats hvs)) fun v s' f h => ?_
  obtain ⟨g', as', G, r⟩ := h
  cases f <;> first | exact r.elim | skip
  obtain ⟨rfl, w'⟩ := r
  exact ⟨rfl, g', as', (G1.trans G2).trans G, w', G.at_ ax⟩
end

-- ktd_rel: a look-up; ktr_rel: an expression; tb_rel: a list of them; tb_start: an operator; ktr_unf: a comparison; kwd_rel: a test; kwd_less: a weakening
-- ktn_open: who is called by this name; kwd_inv: what the called def does; ktr_room: a statement's plain side goals; ktr_units: a global that is data
local macro_rules | `(tactic| ktn_open) => `(tactic| first
  | ((with_reducible refine' Glob.c_gcd ?G); (case G => assumption))
  | ((with_reducible refine' Glob.c_make ?G); (case G => assumption))
  | ((with_reducible refine' Glob.c_is_na ?G); (case G => assumption))
  | ((with_reducible refine' Glob.c_is_finite ?G); (case G => assumption))
  | ((with_reducible refine' Glob.c_marked ?G); (case G => assumption))
  | ((with_reducible refine' Glob.c_neg ?G); (case G => assumption))
  | ((with_reducible refine' Glob.c_add ?G); (case G => assumption))
  | ((with_reducible refine' Glob.c_sub ?G); (case G => assumption))
  | ((with_reducible refine' Glob.c_mul ?G); (case G => assumption))
  | ((with_reducible refine' Glob.c_div ?G); (case G => assumption))
  | ((with_reducible refine' Glob.c_weighted ?G); (case G => assumption))
  | ((with_reducible refine' Glob.c_dot ?G); (case G => assumption))
  | ((with_reducible refine' Glob.c_less_multiple ?G); (case G => assumption))
  | ((with_reducible refine' Glob.c_check_finite ?G); (case G => assumption))
  | ((with_reducible refine' Glob.c_check_weights ?G); (case G => assumption))
  | ((with_reducible refine' Glob.c_orthogonal ?G); (case G => assumption))
  | ((with_reducible refine' Glob.c_back_coefficients ?G); (case G => assumption))
  | ((with_reducible refine' Glob.c_used_rows ?G); (case G => assumption))
  | ((with_reducible refine' Glob.c_fit ?G); (case G => assumption))
  | ((with_reducible refine' Glob.c_rss ?G); (case G => assumption))
  | ((with_reducible refine' Glob.c_hat_rows ?G); (case G => assumption))
  | ((with_reducible refine' Glob.c_leverages ?G); (case G => assumption))
  | ((with_reducible refine' Glob.c_inverse_shares ?G); (case G => assumption))
  | ((with_reducible refine' Glob.c_unscaled_covariance ?G); (case G => assumption))
  | ((with_reducible refine' Glob.c_variance ?G); (case G => assumption))
  | ((with_reducible refine' Glob.c_covariance ?G); (case G => assumption))
  | ((with_reducible refine' Glob.c_f_value ?G); (case G => assumption))
  | ((with_reducible refine' Glob.c_law_pick ?G); (case G => assumption))
  | ((with_reducible refine' Glob.c_law_low ?G); (case G => assumption))
  | ((with_reducible refine' Glob.c_law_add ?G); (case G => assumption))
  | ((with_reducible refine' Glob.c_law_mul ?G); (case G => assumption))
  | ((with_reducible refine' Glob.c_law_dot ?G); (case G => assumption))
  | ((with_reducible refine' Glob.c_law_value ?G); (case G => assumption))
  | ((with_reducible refine' Glob.c_law_times ?G); (case G => assumption))
  | ((with_reducible refine' Glob.c_law ?G); (case G => assumption))
  | ((with_reducible refine' Glob.c_len ?G); (case G => assumption))
  | ((with_reducible refine' Glob.c_abs ?G); (case G => assumption))
  | ((with_reducible refine' Glob.c_max ?G); (case G => assumption))
  | ((with_reducible refine' Glob.c_sum ?G); (case G => assumption))
  | ((with_reducible refine' Glob.c_range ?G); (case G => assumption))
  | ((with_reducible refine' Glob.c_list ?G); (case G => assumption))
  | ((with_reducible refine' Glob.c_Fit ?G); (case G => assumption))
  )
local macro_rules | `(tactic| ktr_units) => `(tactic| first
  | ((with_reducible refine' Glob.v_ZERO ?G); (case G => assumption))
  | ((with_reducible refine' Glob.v_ONE ?G); (case G => assumption))
  | ((with_reducible refine' Glob.v_NAN ?G); (case G => assumption)))
local macro_rules | `(tactic| ktd_rel) => `(tactic| first
  | with_reducible exact look_head
  | ((with_reducible refine' look_tail ?a ?b); (case a => kernel_rfl); (case b => ktd_rel)))
local macro_rules | `(tactic| ktr_rel) => `(tactic| first
  | with_reducible exact Ev_int
  | ((with_reducible refine' Ev_name ?a ?b ?c); (case a => ktd_rel); (case b => kernel_rfl); (case c => kernel_rfl))
  | ((with_reducible refine' Ev_data ?a ?b ?c); (case a => ktr_units); (case b => kernel_rfl); (case c => kernel_rfl))
  | with_reducible exact Ev_none
  | with_reducible exact Ev_bool
  | with_reducible exact Ev_str
  | ((with_reducible refine' Ev_callN ?x ?k ?d ?e ?p ?a ?c); (case x => ktn_open); (case k => kernel_rfl); (case d => kernel_rfl); (case e => kernel_rfl); (case p => kernel_rfl); (case a => tb_rel); (case c => kwd_inv))
  | ((with_reducible refine' Ev_sub ?v ?i ?d ?k ?s); (case v => ktr_rel); (case i => ktr_rel); (case s => exact fun _ _ => rfl); (case d => ktr_room); (case k => omega))
  | ((with_reducible refine' Ev_bin ?l ?r ?o); (case l => ktr_rel); (case r => ktr_rel); (case o => tb_start))
  | ((with_reducible refine' Ev_cmp ?l ?r ?o ?z); (case z => kernel_rfl); (case l => ktr_rel); (case r => ktr_rel); (case o => ktr_unf))
  | ((with_reducible refine' Ev_tuple ?l ?z); (case l => tb_rel); (case z => exact Nat.le_of_ble_eq_true rfl))
  | ((with_reducible refine' Ev_neg ?l); (case l => ktr_rel)))
local macro_rules | `(tactic| tb_rel) => `(tactic| first
  | with_reducible exact Evs_nil
  | ((with_reducible refine' Evs_cons ?l ?r ?z); (case z => kernel_rfl); (case l => ktr_rel); (case r => tb_rel)))
local macro_rules | `(tactic| tb_start) => `(tactic| first
  | with_reducible exact Op_add
  | with_reducible exact Op_sub
  | ((with_reducible refine' Op_mul ?a); (case a => assumption))
  | ((with_reducible refine' Op_mod ?a); (case a => first | assumption | omega))
  | ((with_reducible refine' Op_fdiv ?a); (case a => first | assumption | omega)))
local macro_rules | `(tactic| ktr_unf) => `(tactic| first
  | with_reducible exact Cmp_gt
  | with_reducible exact Cmp_lt
  | with_reducible exact Cmp_eq
  | with_reducible exact Cmp_ne
  | with_reducible exact Cmp_ge
  | with_reducible exact Cmp_eqb
  | ((with_reducible refine' Cmp_is ?a); (case a => first | rfl | assumption))
  | ((with_reducible refine' Cmp_isNot ?a); (case a => first | rfl | assumption)))
local macro_rules | `(tactic| kwd_rel) => `(tactic| first
  | ((with_reducible refine' Tt_cmp ?l ?r ?o ?z); (case z => kernel_rfl); (case l => ktr_rel); (case r => ktr_rel); (case o => ktr_unf))
  | ((with_reducible refine' Tt_bool ?l ?z); (case z => exact fun _ => rfl); (case l => ktr_rel)))
local macro_rules | `(tactic| kwd_less) => `(tactic| repeat (first | exact trivial | refine ⟨by kernel_rfl!, ?_⟩))
local macro_rules | `(tactic| ktr_room) => `(tactic| first
  | kernel_rfl!
  | rfl
  | assumption)
-- kwd_inv: the called def's word: the built-ins
local macro_rules | `(tactic| kwd_inv) => `(tactic| first
  | with_reducible exact Fn_abs
  | with_reducible exact Fn_max
  | with_reducible exact Fn_range1
  | with_reducible exact Fn_range2
  | ((with_reducible refine' Fn_range3 ?a); (case a => decide))
  | ((with_reducible refine' Fn_len ?a ?b); (case a => first | exact .inl rfl | exact .inr ⟨_, rfl, rfl⟩); (case b => first | assumption | omega)))
-- kst_p: a test whose answer the facts tell; kst_mem: such an equation
local macro_rules | `(tactic| kst_mem) => `(tactic| first
  | rfl
  | (simp only [decide_eq_true_eq, decide_eq_false_iff_not, beq_iff_eq, beq_eq_false_iff_ne, bne_iff_ne, bne_eq_false_iff_eq, ne_eq, Bool.not_eq_true', Bool.not_eq_false', Bool.and_eq_true, Bool.and_eq_false_imp, Bool.true_eq_false, eq_self, reduceCtorEq]; first | assumption | omega))
local macro_rules | `(tactic| kst_p) => `(tactic| (refine' Tt_of ?t ?e; (case t => kwd_rel); (case e => kst_mem)))
-- kst_facts: an expression whose value the facts tell
local macro_rules | `(tactic| kst_facts) => `(tactic| (refine' Ev_of ?t ?e; (case t => ktr_rel); (case e => first | rfl | kst_mem | (simp; done) | (simp_all; done))))

def eu (p : Int × Int) : Nat → Int × Int
  | 0 => p
  | k + 1 => ((eu p k).2, (eu p k).1.fmod (eu p k).2)
theorem eu_shift (p : Int × Int) : ∀ k, eu p (k + 1) = eu (p.2, p.1.fmod p.2) k
  | 0 => rfl
  | k + 1 => by
    show ((eu p (k + 1)).2, (eu p (k + 1)).1.fmod (eu p (k + 1)).2) = _
    rw [eu_shift p k]; rfl
theorem eu_end : ∀ (m : Nat) (x y : Int), 0 ≤ x → 0 ≤ y → y.toNat ≤ m → ∃ N, (∀ k, k < N → 0 < (eu (x, y) k).2) ∧ (eu (x, y) N).2 = 0 ∧ (eu (x, y) N).1 = Int.gcd x y := by
  intro m
  induction m with
  | zero =>
    intro x y hx hy hm
    have : y = 0 := by omega
    subst this
    exact ⟨0, fun k h => absurd h (Nat.not_lt_zero k), rfl, by show x = _; simp; omega⟩
  | succ m ih =>
    intro x y hx hy hm
    by_cases h0 : y = 0
    · subst h0
      exact ⟨0, fun k h => absurd h (Nat.not_lt_zero k), rfl, by show x = _; simp; omega⟩
    · have hp : 0 < y := by omega
      have hf : x.fmod y = x % y := Int.fmod_eq_emod_of_nonneg x hy
      have h1 := Int.emod_nonneg x h0
      have h2 := Int.emod_lt_of_pos x hp
      obtain ⟨N, a, b, c⟩ := ih y (x.fmod y) hy (by rw [hf]; exact h1) (by rw [hf]; omega)
      refine ⟨N + 1, fun k hk => ?_, ?_, ?_⟩
      · cases k with
        | zero => exact hp
        | succ k => rw [eu_shift]; exact a k (by omega)
      · rw [eu_shift]; exact b
      · rw [eu_shift]; show (eu (y, x.fmod y) N).1 = _
        rw [c, hf]
        obtain ⟨m, rfl⟩ := Int.eq_ofNat_of_zero_le hx
        obtain ⟨n, rfl⟩ := Int.eq_ofNat_of_zero_le hy
        show ((Nat.gcd n (m % n) : Nat) : Int) = (Nat.gcd m n : Nat)
        rw [Nat.gcd_comm n, ← Nat.gcd_rec, Nat.gcd_comm]

section
variable {C : Cx} {a : Addrs} {tr : List MObj}


theorem gcd_spec (G : Glob C a) {x y : Int} (hx : 0 ≤ x) (hy : 0 ≤ y) : Fn C 1 (.ref a.f_gcd) tr [.int x, .int y] tr (.int (Int.gcd x y)) := by
  obtain ⟨N, hN, h0, hg⟩ := eu_end _ x y hx hy (Nat.le_refl _)
  rw [← hg]
  refine Fn_ofΓ (Γ := [("a", .int x), ("b", .int y)]) G.d_gcd rfl rfl fun qual L code => ?_
  conv in (fbody _) => whnf
  refine Ex_cons (Ex1_while N (fun k => [("a", .int (eu (x, y) k).1), ("b", .int (eu (x, y) k).2)]) (fun _ => tr) rfl (fun _ _ h => h) (fun k hk => ?_) ?_ (fun k hk => ?_)) ?_
  · refine' Tt_of ?t ?e
    case t => kwd_rel
    case e => simp [hN k hk]
  · refine' Tt_of ?t ?e
    case t => kwd_rel
    case e => simp [h0]
  · have := hN k hk
    refine Ex_cons (Ex1_pair (x := "a") (y := "b") (d1 := .int (eu (x, y) k).2) (d2 := .int ((eu (x, y) k).1.fmod (eu (x, y) k).2)) ?_ (stores_of (by kernel_rfl)) (stores_of (by kernel_rfl)) (by kernel_rfl) (by kernel_rfl)) (Ex_end (by kwd_less))
    ktr_rel
  · refine Ex_ret (Ex1_return ?_)
    ktr_rel

theorem gcd_pos_of {x d : Int} (hd : 0 < d) : (0 : Int) < (Int.gcd x d : Int) := by
  have : Int.gcd x d ≠ 0 := by rw [Ne, Int.gcd_eq_zero_iff]; omega
  omega
/-- what a fraction brought down is -/
theorem low_is {x d : Int} (hd : 0 < d) : x.fdiv (Int.gcd x d) = (Rat.divInt x d).num ∧ d.fdiv (Int.gcd x d) = (Rat.divInt x d).den := by
  have hp := gcd_pos_of (x := x) hd
  rw [Rat.num_divInt, Rat.den_divInt, if_neg (by omega), Int.fdiv_eq_ediv_of_nonneg _ (by omega), Int.fdiv_eq_ediv_of_nonneg _ (by omega), Int.sign_eq_one_of_pos hd, Int.one_mul, Int.gcd_comm]
  refine ⟨rfl, ?_⟩
  obtain ⟨m, rfl⟩ := Int.eq_ofNat_of_zero_le (Int.le_of_lt hd)
  simp
theorem divInt_negneg (x d : Int) : Rat.divInt (0 - x) (0 - d) = Rat.divInt x d := by
  rw [Int.zero_sub, Int.zero_sub]
  exact Rat.neg_divInt_neg x d

local macro_rules | `(tactic| kwd_inv) => `(tactic| (with_reducible refine' Fn.mono (gcd_spec ?g ?x ?y) ?l; (case g => assumption); (case x => assumption); (case y => assumption); (case l => decide)))


theorem make_spec (G : Glob C a) {x d : Int} (hd : d ≠ 0) : Fn C 2 (.ref a.f_make) tr [.int x, .int d] tr (frq (Rat.divInt x d)) := by
  refine Fn_ofΓ (Γ := [("n", .int x), ("d", .int d)]) G.d_make rfl rfl fun qual L code => ?_
  conv in (fbody _) => whnf
  refine Ex_if_skip (tr1 := tr) ?_ ?_
  · kst_p
  have tail : ∀ (x' d' : Int), 0 < d' → ∀ Γ', Wk [("n", .int x'), ("d", .int d')] Γ' → Rat.divInt x' d' = Rat.divInt x d → Ex C 1 (fenv (fscope 6) qual L a.f_make code) Γ' tr ((fbody 6).drop 2) (.ret tr (frq (Rat.divInt x d))) := fun x' d' hd' Γ' w he => by
    refine Ex_pre (Γ1 := [("n", .int x'), ("d", .int d')]) ?_ w.look
    conv in (List.drop _ _) => whnf
    have h1 : (0 : Int) ≤ (if x' < 0 then -x' else x') := by split <;> omega
    have h2 : (0 : Int) ≤ d' := by omega
    have hg : Int.gcd (if x' < 0 then -x' else x') d' = Int.gcd x' d' := by split <;> simp
    have hp := gcd_pos_of (x := x') hd'
    have hp' : (Int.gcd (if x' < 0 then -x' else x') d' : Int) ≠ 0 := by rw [hg]; omega
    obtain ⟨l1, l2⟩ := low_is (x := x') hd'
    refine Ex_assign (tr1 := tr) (d := .int (Int.gcd (if x' < 0 then -x' else x') d')) ?_ (by kernel_rfl) (by kernel_rfl) ?_
    · ktr_rel
    · refine Ex_return (Ev_of (d := .tup [.int (x'.fdiv (Int.gcd (if x' < 0 then -x' else x') d')), .int (d'.fdiv (Int.gcd (if x' < 0 then -x' else x') d'))]) ?_ ?_)
      · ktr_rel
      · rw [hg, l1, l2, he]; rfl
  by_cases hn : d < 0
  · refine Ex_if_next (tr1 := tr) (tr2 := tr) (Γ1 := [("d", .int (0 - d)), ("n", .int (0 - x))]) ?_ ?_ (tail (0 - x) (0 - d) (by omega) _ (by kwd_less) (divInt_negneg x d))
    · kst_p
    · refine Ex_assign (tr1 := tr) (d := .int (0 - x)) ?_ (by kernel_rfl) (by kernel_rfl) (Ex_assign (tr1 := tr) (d := .int (0 - d)) ?_ (by kernel_rfl) (by kernel_rfl) (Ex_end (by kwd_less)))
      · ktr_rel
      · ktr_rel
  · refine Ex_if_skip (tr1 := tr) ?_ (tail x d (by omega) _ (by kwd_less) rfl)
    · kst_p


theorem make_spec0 (G : Glob C a) {x : Int} : Fn C 2 (.ref a.f_make) tr [.int x, .int 0] tr (infD x.sign) := by
  refine Fn_ofΓ (Γ := [("n", .int x), ("d", .int 0)]) G.d_make rfl rfl fun qual L code => ?_
  conv in (fbody _) => whnf
  refine Ex_if_ret (tr1 := tr) (by kst_p) ?_
  by_cases h0 : x = 0
  · subst h0
    refine Ex_if_ret (tr1 := tr) (by kst_p) (Ex_return (Ev_of (d := infD 0) ?_ rfl))
    ktr_rel
  · refine Ex_if_skip (tr1 := tr) ?_ (Ex_return ?_)
    · kst_p
    · by_cases hp : 0 < x
      · refine Ev_ifexp (tr1 := tr) (b := true) ?_ (Ev_of (d := .tup [.int 1, .int 0]) ?_ ?_)
        · kst_p
        · simp only [if_true]; ktr_rel
        · rw [Int.sign_eq_one_of_pos hp]; rfl
      · refine Ev_ifexp (tr1 := tr) (b := false) ?_ (Ev_of (d := .tup [.int (-1), .int 0]) ?_ ?_)
        · kst_p
        · simp only [Bool.false_eq_true, if_false]; ktr_rel
        · rw [Int.sign_eq_neg_one_of_neg (by omega)]; rfl
end


local macro_rules | `(tactic| kwd_inv) => `(tactic| first
  | ((with_reducible refine' Fn.mono (gcd_spec ?g ?x ?y) ?l); (case g => assumption); (case x => assumption); (case y => assumption); (case l => decide))
  | fail "no")
local macro_rules | `(tactic| kwd_inv) => `(tactic| first
  | ((with_reducible refine' Fn.mono (make_spec0 ?g) ?l); (case g => assumption); (case l => decide))
  | fail "no")
local macro_rules | `(tactic| kwd_inv) => `(tactic| first
  | ((with_reducible refine' Fn.mono (make_spec ?g ?x) ?l); (case g => assumption); (case x => assumption); (case l => decide))
  | fail "no")

section
variable {C : Cx} {a : Addrs} {tr : List MObj}

/-! sizes -/
def Sz (b : Nat) (q : Rat) : Prop := q.num.natAbs < 2 ^ b ∧ q.den < 2 ^ b
theorem bits_of {i : Int} {b : Nat} (h : i.natAbs < 2 ^ b) : Builtin.Int.intBits i ≤ b := by
  unfold Builtin.Int.intBits
  split
  · exact Nat.zero_le _
  · rename_i h0
    have h1 : i.natAbs ≠ 0 := by
      intro h2; apply h0; simp at h2 ⊢; exact h2
    have := (Nat.log2_lt h1).mpr h
    omega
theorem mulOk {i j : Int} {b c : Nat} (h : i.natAbs < 2 ^ b) (k : j.natAbs < 2 ^ c) (hbc : b + c ≤ 134217728) : IntMulOk i j := IntMulOk.of_le (bits_of h) (bits_of k) hbc
theorem Sz.mulOk {b c : Nat} {x y : Rat} (h : Sz b x) (k : Sz c y) (hbc : b + c ≤ 134217728) : IntMulOk x.num y.num ∧ IntMulOk x.num y.den ∧ IntMulOk y.num x.den ∧ IntMulOk x.den y.den ∧ IntMulOk x.den y.num :=
  ⟨Mine.mulOk h.1 k.1 hbc, Mine.mulOk h.1 k.2 hbc, Mine.mulOk k.1 h.2 (by omega), Mine.mulOk h.2 k.2 hbc, Mine.mulOk h.2 k.1 hbc⟩
theorem Sz.le {b c : Nat} {x : Rat} (h : Sz b x) (hbc : b ≤ c) : Sz c x := ⟨Nat.lt_of_lt_of_le h.1 (Nat.pow_le_pow_right (by decide) hbc), Nat.lt_of_lt_of_le h.2 (Nat.pow_le_pow_right (by decide) hbc)⟩
theorem divInt_size {n d : Int} {b : Nat} (hn : n.natAbs < 2 ^ b) (hd : d.natAbs < 2 ^ b) (hb : 0 < b) : Sz b (Rat.divInt n d) := by
  unfold Sz
  rw [Rat.num_divInt, Rat.den_divInt]
  constructor
  · by_cases h0 : d = 0
    · subst h0; simp; exact Nat.two_pow_pos b
    · rw [Int.natAbs_ediv_of_dvd (Int.dvd_trans (Int.gcd_dvd_right ..) (Int.dvd_mul_left _ _)), Int.natAbs_mul, Int.natAbs_sign_of_ne_zero h0, Nat.one_mul]
      exact Nat.lt_of_le_of_lt (Nat.div_le_self _ _) hn
  · split
    · exact Nat.one_lt_two_pow (by omega)
    · exact Nat.lt_of_le_of_lt (Nat.div_le_self _ _) hd
theorem mul_lt_pow {x y b c : Nat} (h : x < 2 ^ b) (k : y < 2 ^ c) : x * y < 2 ^ (b + c) := by
  rw [Nat.pow_add]
  exact Nat.mul_lt_mul'' h k
theorem Sz.pos {b : Nat} {x : Rat} (h : Sz b x) : 0 < b := by
  rcases Nat.eq_zero_or_pos b with rfl | h0
  · have := h.2; have := x.den_nz; simp at *; omega
  · exact h0
theorem Sz.mul {b c : Nat} {x y : Rat} (h : Sz b x) (k : Sz c y) : Sz (b + c) (x * y) := by
  have hp := h.pos
  have e : x * y = Rat.divInt (x.num * y.num) (x.den * y.den) := by
    conv => lhs; rw [← Rat.num_divInt_den x, ← Rat.num_divInt_den y]
    rw [Rat.divInt_mul_divInt]
  rw [e]
  refine divInt_size ?_ ?_ (by omega)
  · rw [Int.natAbs_mul]; exact mul_lt_pow h.1 k.1
  · rw [Int.natAbs_mul]; exact mul_lt_pow h.2 k.2
theorem add_is (x y : Rat) : x + y = Rat.divInt (x.num * y.den + y.num * x.den) (x.den * y.den) := by
  conv => lhs; rw [← Rat.num_divInt_den x, ← Rat.num_divInt_den y]
  rw [Rat.divInt_add_divInt _ _ (by have := x.den_nz; omega) (by have := y.den_nz; omega)]
theorem mul_is (x y : Rat) : x * y = Rat.divInt (x.num * y.num) (x.den * y.den) := by
  conv => lhs; rw [← Rat.num_divInt_den x, ← Rat.num_divInt_den y]
  rw [Rat.divInt_mul_divInt]
theorem div_is (x y : Rat) : x / y = Rat.divInt (x.num * y.den) (x.den * y.num) := by
  rw [Rat.div_def, Rat.inv_def]
  conv => lhs; rw [← Rat.num_divInt_den x]
  rw [Rat.divInt_mul_divInt]
theorem Sz.add {b c : Nat} {x y : Rat} (h : Sz b x) (k : Sz c y) : Sz (b + c + 1) (x + y) := by
  rw [add_is]
  have h1 := mul_lt_pow h.1 k.2
  have h2 := mul_lt_pow k.1 h.2
  have h3 := mul_lt_pow h.2 k.2
  have e : c + b = b + c := Nat.add_comm _ _
  rw [e] at h2
  refine divInt_size ?_ ?_ (by omega)
  · have := Int.natAbs_add_le (x.num * y.den) (y.num * x.den)
    rw [Int.natAbs_mul, Int.natAbs_mul] at this
    simp only [Int.natAbs_natCast] at this
    rw [Nat.pow_succ]; omega
  · rw [Int.natAbs_mul]; simp only [Int.natAbs_natCast]; rw [Nat.pow_succ]; omega
theorem Sz.neg {b : Nat} {x : Rat} (h : Sz b x) : Sz b (-x) := by
  unfold Sz; rw [Rat.neg_num, Rat.neg_den, Int.natAbs_neg]; exact h
theorem Sz.sub {b c : Nat} {x y : Rat} (h : Sz b x) (k : Sz c y) : Sz (b + c + 1) (x - y) := by
  rw [Rat.sub_eq_add_neg]; exact h.add k.neg
theorem Sz.div {b c : Nat} {x y : Rat} (h : Sz b x) (k : Sz c y) : Sz (b + c) (x / y) := by
  have hp := h.pos
  rw [div_is]
  refine divInt_size ?_ ?_ (by omega)
  · rw [Int.natAbs_mul]; exact mul_lt_pow h.1 k.2
  · rw [Int.natAbs_mul]; exact mul_lt_pow h.2 k.1

/-! the little ones -/

theorem is_na_spec (G : Glob C a) {n d : Int} : Fn C 1 (.ref a.f_is_na) tr [.tup [.int n, .int d]] tr (.bool (n == 0 && d == 0)) := by
  refine Fn_ofΓ (Γ := [("x", .tup [.int n, .int d])]) G.d_is_na rfl rfl fun qual L code => ?_
  conv in (fbody _) => whnf
  refine Ex_return (Ev_or (b := false) (tr1 := tr) ?_ (fun h => by cases h) fun _ => ?_)
  · ktr_rel
  · by_cases h : n = 0
    · subst h
      refine Ev_and (b := true) (tr1 := tr) ?_ (fun h => by cases h) fun _ => ?_
      · kst_facts
      · kst_facts
    · have h' : (n == 0) = false := by simpa using h
      refine Ev_and (b := (n == 0)) (tr1 := tr) ?_ (fun _ => ⟨rfl, by rw [h']; rfl⟩) fun h2 => by rw [h'] at h2; cases h2
      ktr_rel

theorem is_finite_spec (G : Glob C a) {n d : Int} : Fn C 1 (.ref a.f_is_finite) tr [.tup [.int n, .int d]] tr (.bool (decide (0 < d))) := by
  refine Fn_ofΓ (Γ := [("x", .tup [.int n, .int d])]) G.d_is_finite rfl rfl fun qual L code => ?_
  conv in (fbody _) => whnf
  refine Ex_return (Ev_and (b := true) (tr1 := tr) ?_ (fun h => by cases h) fun _ => ?_)
  · kst_facts
  · ktr_rel

theorem marked_spec (G : Glob C a) {x y : List D} : Fn C 1 (.ref a.f_marked) tr [.tup x, .tup y] tr (infD 0) := by
  refine Fn_ofΓ (Γ := [("x", .tup x), ("y", .tup y)]) G.d_marked rfl rfl fun qual L code => ?_
  conv in (fbody _) => whnf
  refine Ex_if_skip (tr1 := tr) (Tt_or_false (tr1 := tr) (by kst_p) (by kst_p)) (Ex_return ?_)
  ktr_rel

theorem neg_spec (G : Glob C a) {n d : Int} : Fn C 1 (.ref a.f_neg) tr [.tup [.int n, .int d]] tr (.tup [.int (0 - n), .int d]) := by
  refine Fn_ofΓ (Γ := [("x", .tup [.int n, .int d])]) G.d_neg rfl rfl fun qual L code => ?_
  conv in (fbody _) => whnf
  refine Ex_if_skip (tr1 := tr) (by kst_p) (Ex_return ?_)
  ktr_rel

/-! sums, products, quotients of fractions -/
theorem den_pos (x : Rat) : (0 : Int) < x.den := by have := x.den_nz; omega
theorem den_ne (x : Rat) : (x.den : Int) ≠ 0 := by have := x.den_nz; omega
theorem frq_def (q : Rat) : frq q = .tup [.int q.num, .int q.den] := rfl
theorem infD_def (i : Int) : infD i = .tup [.int i, .int 0] := rfl
theorem na_frq {q : Rat} : (q.num == 0 && (q.den : Int) == 0) = false := by have := den_ne q; simp; intro _; omega

local macro_rules | `(tactic| kwd_inv) => `(tactic| first
  | ((with_reducible refine' Fn.mono (is_na_spec ?g) ?l); (case g => assumption); (case l => decide))
  | ((with_reducible refine' Fn.mono (is_finite_spec ?g) ?l); (case g => assumption); (case l => decide))
  | ((with_reducible refine' Fn.mono (marked_spec ?g) ?l); (case g => assumption); (case l => decide))
  | ((with_reducible refine' Fn.mono (neg_spec ?g) ?l); (case g => assumption); (case l => decide)))


theorem add_spec (G : Glob C a) {x y : Rat} {b c : Nat} (hx : Sz b x) (hy : Sz c y) (hbc : b + c ≤ 134217728) : Fn C 3 (.ref a.f_add) tr [frq x, frq y] tr (frq (x + y)) := by
  refine Fn_ofΓ (Γ := [("x", .tup [.int x.num, .int x.den]), ("y", .tup [.int y.num, .int y.den])]) G.d_add rfl rfl fun qual L code => ?_
  conv in (fbody _) => whnf
  have dx := den_ne x
  have dy := den_ne y
  obtain ⟨m1, m2, m3, m4, m5⟩ := hx.mulOk hy hbc
  have hd : (x.den : Int) * y.den ≠ 0 := Int.mul_ne_zero dx dy
  refine Ex_if_skip (tr1 := tr) (Tt_or_false (tr1 := tr) (Tt_of (by kwd_rel) na_frq) (Tt_of (by kwd_rel) na_frq)) ?_
  refine Ex_if_skip (tr1 := tr) (Tt_and_false (by kst_p)) ?_
  refine Ex_if_skip (tr1 := tr) (by kst_p) ?_
  refine Ex_if_skip (tr1 := tr) (by kst_p) ?_
  rw [add_is]
  refine Ex_return ?_
  ktr_rel

theorem mul_spec (G : Glob C a) {x y : Rat} {b c : Nat} (hx : Sz b x) (hy : Sz c y) (hbc : b + c ≤ 134217728) : Fn C 3 (.ref a.f_mul) tr [frq x, frq y] tr (frq (x * y)) := by
  refine Fn_ofΓ (Γ := [("x", .tup [.int x.num, .int x.den]), ("y", .tup [.int y.num, .int y.den])]) G.d_mul rfl rfl fun qual L code => ?_
  conv in (fbody _) => whnf
  have dx := den_ne x
  have dy := den_ne y
  obtain ⟨m1, m2, m3, m4, m5⟩ := hx.mulOk hy hbc
  have hd : (x.den : Int) * y.den ≠ 0 := Int.mul_ne_zero dx dy
  refine Ex_if_skip (tr1 := tr) (Tt_or_false (tr1 := tr) (Tt_of (by kwd_rel) na_frq) (Tt_of (by kwd_rel) na_frq)) ?_
  rw [mul_is]
  refine Ex_return ?_
  ktr_rel

local macro_rules | `(tactic| kwd_inv) => `(tactic| first
  | ((with_reducible refine' Fn.mono (add_spec ?g ?x ?y ?b) ?l); (case g => assumption); (case x => assumption); (case y => first | assumption | (refine Sz.neg ?_; assumption)); (case b => assumption); (case l => decide)))

theorem neg_frq (y : Rat) : D.tup [.int (0 - y.num), .int y.den] = frq (-y) := by
  unfold frq; rw [Rat.neg_num, Rat.neg_den, Int.zero_sub]
theorem neg_spec' (G : Glob C a) {y : Rat} : Fn C 1 (.ref a.f_neg) tr [frq y] tr (frq (-y)) := Fn_of_eq (neg_spec G) (neg_frq y)
local macro_rules | `(tactic| kwd_inv) => `(tactic| ((with_reducible refine' Fn.mono (neg_spec' ?g) ?l); (case g => assumption); (case l => decide)))

theorem sub_spec (G : Glob C a) {x y : Rat} {b c : Nat} (hx : Sz b x) (hy : Sz c y) (hbc : b + c ≤ 134217728) : Fn C 4 (.ref a.f_sub) tr [frq x, frq y] tr (frq (x - y)) := by
  refine Fn_ofΓ (Γ := [("x", frq x), ("y", frq y)]) G.d_sub rfl rfl fun qual L code => ?_
  conv in (fbody _) => whnf
  rw [Rat.sub_eq_add_neg]
  have e := Fn.mono (n := 3) (add_spec (tr := tr) G hx hy.neg hbc) (by decide)
  refine Ex_return ?_
  refine Ev_callN (by ktn_open) (by kernel_rfl) (by kernel_rfl) (by kernel_rfl) (by kernel_rfl) (by tb_rel) e


theorem div_spec (G : Glob C a) {x y : Rat} {b c : Nat} (hx : Sz b x) (hy : Sz c y) (hbc : b + c ≤ 134217728) (h0 : y ≠ 0) : Fn C 3 (.ref a.f_div) tr [frq x, frq y] tr (frq (x / y)) := by
  refine Fn_ofΓ (Γ := [("x", .tup [.int x.num, .int x.den]), ("y", .tup [.int y.num, .int y.den])]) G.d_div rfl rfl fun qual L code => ?_
  conv in (fbody _) => whnf
  have dx := den_ne x
  have dy := den_ne y
  have hn : y.num ≠ 0 := fun h => h0 (Rat.num_eq_zero.mp h)
  obtain ⟨m1, m2, m3, m4, m5⟩ := hx.mulOk hy hbc
  have hd : (x.den : Int) * y.num ≠ 0 := Int.mul_ne_zero dx hn
  refine Ex_if_skip (tr1 := tr) (Tt_or_false (tr1 := tr) (Tt_of (by kwd_rel) na_frq) (Tt_of (by kwd_rel) na_frq)) ?_
  refine Ex_if_skip (tr1 := tr) (Tt_and_false (by kst_p)) ?_
  refine Ex_if_skip (tr1 := tr) (by kst_p) ?_
  rw [div_is]
  refine Ex_return ?_
  ktr_rel
/-- by nought -/

theorem div_spec0 (G : Glob C a) {x : Rat} : Fn C 3 (.ref a.f_div) tr [frq x, frq 0] tr (infD x.num.sign) := by
  refine Fn_ofΓ (Γ := [("x", .tup [.int x.num, .int x.den]), ("y", .tup [.int 0, .int 1])]) G.d_div rfl rfl fun qual L code => ?_
  conv in (fbody _) => whnf
  have dx := den_ne x
  have m1 : IntMulOk x.num 1 := .of_right (by decide)
  have m2 : IntMulOk x.den 0 := .of_right (by decide)
  refine Ex_if_skip (tr1 := tr) (Tt_or_false (tr1 := tr) (Tt_of (by kwd_rel) na_frq) (Tt_of (by kwd_rel) rfl)) ?_
  refine Ex_if_skip (tr1 := tr) (Tt_and_false (by kst_p)) ?_
  refine Ex_if_skip (tr1 := tr) (by kst_p) ?_
  have e : Fn C 2 (.ref a.f_make) tr [.int (x.num * 1), .int ((x.den : Int) * 0)] tr (infD x.num.sign) := by
    rw [Int.mul_one, Int.mul_zero]; exact make_spec0 G
  refine Ex_return ?_
  refine Ev_callN (by ktn_open) (by kernel_rfl) (by kernel_rfl) (by kernel_rfl) (by kernel_rfl) (by tb_rel) e
/-- by NaN, Inf, -Inf -/

theorem div_specInf (G : Glob C a) {x : Rat} {i : Int} (hi : i = 0 ∨ i = 1 ∨ i = -1) : Fn C 3 (.ref a.f_div) tr [frq x, infD i] tr (if i = 0 then infD 0 else frq 0) := by
  refine Fn_ofΓ (Γ := [("x", .tup [.int x.num, .int x.den]), ("y", .tup [.int i, .int 0])]) G.d_div rfl rfl fun qual L code => ?_
  conv in (fbody _) => whnf
  have dx := den_ne x
  by_cases h0 : i = 0
  · subst h0
    refine Ex_if_ret (tr1 := tr) (Tt_or_false (tr1 := tr) (Tt_of (by kwd_rel) na_frq) (Tt_of (by kwd_rel) rfl)) (Ex_return ?_)
    simp only [if_true]
    ktr_rel
  · have h1 : (i == 0 && (0 : Int) == 0) = false := by simpa using h0
    have m1 : IntMulOk x.num 0 := .of_right (by decide)
    have m2 : IntMulOk x.den i := .of_right (by rcases hi with rfl | rfl | rfl <;> decide)
    have hd : (x.den : Int) * i ≠ 0 := Int.mul_ne_zero dx h0
    refine Ex_if_skip (tr1 := tr) (Tt_or_false (tr1 := tr) (Tt_of (by kwd_rel) na_frq) (Tt_of (by kwd_rel) h1)) ?_
    refine Ex_if_skip (tr1 := tr) (Tt_and_false (by kst_p)) ?_
    refine Ex_if_skip (tr1 := tr) (by kst_p) ?_
    rw [if_neg h0]
    refine Ex_return (Ev_of (d := frq (Rat.divInt (x.num * 0) (x.den * i))) ?_ ?_)
    · ktr_rel
    · rw [Int.mul_zero, Rat.zero_divInt]
/-- a product with NaN, Inf, -Inf -/

theorem mul_specInf (G : Glob C a) {x : Rat} {i : Int} (hi : i = 0 ∨ i = 1 ∨ i = -1) : ∃ j, Fn C 3 (.ref a.f_mul) tr [frq x, infD i] tr (infD j) := by
  by_cases h0 : i = 0
  · subst h0
    refine ⟨0, Fn_ofΓ (Γ := [("x", .tup [.int x.num, .int x.den]), ("y", .tup [.int 0, .int 0])]) G.d_mul rfl rfl fun qual L code => ?_⟩
    conv in (fbody _) => whnf
    refine Ex_if_ret (tr1 := tr) (Tt_or_false (tr1 := tr) (Tt_of (by kwd_rel) na_frq) (Tt_of (by kwd_rel) rfl)) (Ex_return ?_)
    ktr_rel
  · refine ⟨(x.num * i).sign, Fn_ofΓ (Γ := [("x", .tup [.int x.num, .int x.den]), ("y", .tup [.int i, .int 0])]) G.d_mul rfl rfl fun qual L code => ?_⟩
    conv in (fbody _) => whnf
    have h1 : (i == 0 && (0 : Int) == 0) = false := by simpa using h0
    have m1 : IntMulOk x.den 0 := .of_right (by decide)
    have m2 : IntMulOk x.num i := .of_right (by rcases hi with rfl | rfl | rfl <;> decide)
    refine Ex_if_skip (tr1 := tr) (Tt_or_false (tr1 := tr) (Tt_of (by kwd_rel) na_frq) (Tt_of (by kwd_rel) h1)) ?_
    have e : Fn C 2 (.ref a.f_make) tr [.int (x.num * i), .int ((x.den : Int) * 0)] tr (infD (x.num * i).sign) := by
      rw [Int.mul_zero]; exact make_spec0 G
    refine Ex_return ?_
    refine Ev_callN (by ktn_open) (by kernel_rfl) (by kernel_rfl) (by kernel_rfl) (by kernel_rfl) (by tb_rel) e

/-! the law's own -/

theorem low_spec (G : Glob C a) {x d : Int} (hd : 0 < d) : Fn C 2 (.ref a.f_law_low) tr [.int x, .int d] tr (frq (Rat.divInt x d)) := by
  have h1 : (0 : Int) ≤ (if 0 ≤ x then x else -x) := by split <;> omega
  obtain ⟨N, hN, h0, hg⟩ := eu_end _ d (if 0 ≤ x then x else -x) (by omega) h1 (Nat.le_refl _)
  have hg' : Int.gcd d (if 0 ≤ x then x else -x) = Int.gcd x d := by rw [Int.gcd_comm]; split <;> simp
  rw [hg'] at hg
  have hp := gcd_pos_of (x := x) hd
  have hp' : (eu (d, if 0 ≤ x then x else -x) N).1 ≠ 0 := by rw [hg]; omega
  obtain ⟨l1, l2⟩ := low_is (x := x) hd
  refine Fn_ofΓ (Γ := [("n", .int x), ("d", .int d)]) G.d_law_low rfl rfl fun qual L code => ?_
  conv in (fbody _) => whnf
  refine Ex_assign (tr1 := tr) (d := .int (if 0 ≤ x then x else -x)) ?_ (by kernel_rfl) (by kernel_rfl) ?_
  · by_cases hx : 0 ≤ x
    · refine Ev_ifexp (tr1 := tr) (b := true) (by kst_p) ?_
      simp only [if_true, if_pos hx]; ktr_rel
    · refine Ev_ifexp (tr1 := tr) (b := false) (by kst_p) ?_
      simp only [Bool.false_eq_true, if_false, if_neg hx]; ktr_rel
  refine Ex_assign (tr1 := tr) (d := .int d) (by ktr_rel) (by kernel_rfl) (by kernel_rfl) ?_
  refine Ex_cons (Ex1_while N (fun k => [("a", .int (eu (d, if 0 ≤ x then x else -x) k).2), ("b", .int (eu (d, if 0 ≤ x then x else -x) k).1), ("n", .int x), ("d", .int d)]) (fun _ => tr) rfl (Wk.look (by kwd_less)) (fun k hk => ?_) ?_ (fun k hk => ?_)) ?_
  · have := hN k hk
    kst_p
  · have := h0
    refine' Tt_of ?t ?e
    case t => kwd_rel
    case e => simp [h0]
  · have := hN k hk
    refine Ex_cons (Ex1_pair (x := "a") (y := "b") (d1 := .int ((eu (d, if 0 ≤ x then x else -x) k).1.fmod (eu (d, if 0 ≤ x then x else -x) k).2)) (d2 := .int (eu (d, if 0 ≤ x then x else -x) k).2) ?_ (stores_of (by kernel_rfl)) (stores_of (by kernel_rfl)) (by kernel_rfl) (by kernel_rfl)) (Ex_end (by kwd_less))
    ktr_rel
  · refine Ex_return (Ev_of (d := .tup [.int (x.fdiv (eu (d, if 0 ≤ x then x else -x) N).1), .int (d.fdiv (eu (d, if 0 ≤ x then x else -x) N).1)]) ?_ ?_)
    · ktr_rel
    · rw [hg, l1, l2]; rfl
local macro_rules | `(tactic| kwd_inv) => `(tactic| ((with_reducible refine' Fn.mono (low_spec ?g ?d) ?l); (case g => assumption); (case d => assumption); (case l => decide)))

theorem ladd_spec (G : Glob C a) {x y : Rat} {b c : Nat} (hx : Sz b x) (hy : Sz c y) (hbc : b + c ≤ 134217728) : Fn C 3 (.ref a.f_law_add) tr [frq x, frq y] tr (frq (x + y)) := by
  refine Fn_ofΓ (Γ := [("x", .tup [.int x.num, .int x.den]), ("y", .tup [.int y.num, .int y.den])]) G.d_law_add rfl rfl fun qual L code => ?_
  conv in (fbody _) => whnf
  obtain ⟨m1, m2, m3, m4, m5⟩ := hx.mulOk hy hbc
  have hd : 0 < (x.den : Int) * y.den := Int.mul_pos (den_pos x) (den_pos y)
  rw [add_is]
  refine Ex_return ?_
  ktr_rel

theorem lmul_spec (G : Glob C a) {x y : Rat} {b c : Nat} (hx : Sz b x) (hy : Sz c y) (hbc : b + c ≤ 134217728) : Fn C 3 (.ref a.f_law_mul) tr [frq x, frq y] tr (frq (x * y)) := by
  refine Fn_ofΓ (Γ := [("x", .tup [.int x.num, .int x.den]), ("y", .tup [.int y.num, .int y.den])]) G.d_law_mul rfl rfl fun qual L code => ?_
  conv in (fbody _) => whnf
  obtain ⟨m1, m2, m3, m4, m5⟩ := hx.mulOk hy hbc
  have hd : 0 < (x.den : Int) * y.den := Int.mul_pos (den_pos x) (den_pos y)
  rw [mul_is]
  refine Ex_return ?_
  ktr_rel
end


local macro_rules | `(tactic| kwd_inv) => `(tactic| first
  | ((with_reducible refine' Fn.mono (is_na_spec ?g) ?l); (case g => assumption); (case l => decide))
  | ((with_reducible refine' Fn.mono (is_finite_spec ?g) ?l); (case g => assumption); (case l => decide))
  | ((with_reducible refine' Fn.mono (marked_spec ?g) ?l); (case g => assumption); (case l => decide))
  | ((with_reducible refine' Fn.mono (low_spec ?g ?d) ?l); (case g => assumption); (case d => assumption); (case l => decide))
  | fail "no")
-- ksw_less: a size is at hand
local macro_rules | `(tactic| kwd_inv) => `(tactic| first
  | ((with_reducible refine' Fn.mono (add_spec ?g ?x ?y ?b) ?l); (case g => assumption); (case x => ksw_less); (case y => ksw_less); (case b => first | assumption | omega); (case l => decide))
  | ((with_reducible refine' Fn.mono (sub_spec ?g ?x ?y ?b) ?l); (case g => assumption); (case x => ksw_less); (case y => ksw_less); (case b => first | assumption | omega); (case l => decide))
  | ((with_reducible refine' Fn.mono (mul_spec ?g ?x ?y ?b) ?l); (case g => assumption); (case x => ksw_less); (case y => ksw_less); (case b => first | assumption | omega); (case l => decide))
  | ((with_reducible refine' Fn.mono (div_spec ?g ?x ?y ?b ?z) ?l); (case g => assumption); (case x => ksw_less); (case y => ksw_less); (case b => first | assumption | omega); (case z => assumption); (case l => decide))
  | ((with_reducible refine' Fn.mono (ladd_spec ?g ?x ?y ?b) ?l); (case g => assumption); (case x => ksw_less); (case y => ksw_less); (case b => first | assumption | omega); (case l => decide))
  | ((with_reducible refine' Fn.mono (lmul_spec ?g ?x ?y ?b) ?l); (case g => assumption); (case x => ksw_less); (case y => ksw_less); (case b => first | assumption | omega); (case l => decide))
  | fail "no")
local macro_rules | `(tactic| ksw_less) => `(tactic| first
  | assumption
  | ((with_reducible refine' Sz.mul ?h ?k); (case h => ksw_less); (case k => ksw_less))
  | ((with_reducible refine' Sz.div ?h ?k); (case h => ksw_less); (case k => ksw_less))
  | ((with_reducible refine' Sz.add ?h ?k); (case h => ksw_less); (case k => ksw_less))
  | ((with_reducible refine' Sz.sub ?h ?k); (case h => ksw_less); (case k => ksw_less))
  | ((with_reducible refine' Sz.neg ?h); (case h => ksw_less))
  | fail "no")

section
variable {C : Cx} {a : Addrs} {tr : List MObj} {n : Nat}
/-! sums -/
def ps (f : Nat → Rat) : Nat → Rat
  | 0 => 0
  | k + 1 => ps f k + f k
def dt (m : Nat) (u v : Nat → Rat) : Rat := ps (fun k => u k * v k) m
def wt (w : Option (Nat → Rat)) (u : Nat → Rat) : Nat → Rat := match w with
  | none => u
  | some ws => fun k => u k * ws k
def vecD (m : Nat) (u : Nat → Rat) : D := .lst ((List.range m).map fun k => frq (u k))
def matD (r m : Nat) (M : Nat → Nat → Rat) : D := .lst ((List.range r).map fun i => vecD m (M i))
def natD (r : Nat) (p : Nat → Nat) : D := .lst ((List.range r).map fun i => .int (p i : Nat))
def wD (m : Nat) (w : Option (Nat → Rat)) : D := match w with
  | none => .none
  | some ws => vecD m ws
def Vsz (b m : Nat) (u : Nat → Rat) : Prop := ∀ k, k < m → Sz b (u k)
theorem Vsz.at {b m k : Nat} {u : Nat → Rat} (h : Vsz b m u) (hk : k < m) : Sz b (u k) := h k hk
def Wsz (b m : Nat) (w : Option (Nat → Rat)) : Prop := match w with
  | none => True
  | some ws => Vsz b m ws
theorem Vsz.le {b c m : Nat} {u : Nat → Rat} (h : Vsz b m u) (hbc : b ≤ c) : Vsz c m u := fun k hk => (h k hk).le hbc
theorem Wsz.wt {b c m : Nat} {u : Nat → Rat} {w : Option (Nat → Rat)} (hw : Wsz c m w) (hu : Vsz b m u) : Vsz (b + c) m (wt w u) := by
  cases w with
  | none => exact hu.le (by omega)
  | some ws => exact fun k hk => (hu k hk).mul (hw k hk)
theorem Sz.zero {b : Nat} (h : 0 < b) : Sz b 0 := ⟨Nat.two_pow_pos b, Nat.one_lt_two_pow (by omega)⟩
theorem ps_size {f : Nat → Rat} {b m : Nat} (h : ∀ k, k < m → Sz b (f k)) : ∀ k, k ≤ m → Sz (1 + k * (b + 1)) (ps f k)
  | 0, _ => Sz.zero (by omega)
  | k + 1, hk => by
    have := (ps_size h k (by omega)).add (h k (by omega))
    refine this.le ?_
    rw [Nat.add_mul]; omega
theorem dt_size {u v : Nat → Rat} {b c m k : Nat} (hu : Vsz b m u) (hv : Vsz c m v) (hk : k ≤ m) : Sz (1 + k * (b + c + 1)) (ps (fun k => u k * v k) k) :=
  ps_size (fun k h => (hu k h).mul (hv k h)) k hk
theorem Vsz.dt {u v : Nat → Rat} {b c m : Nat} (hu : Vsz b m u) (hv : Vsz c m v) : Sz (1 + m * (b + c + 1)) (dt m u v) := dt_size hu hv (Nat.le_refl _)

theorem Vsz.dt4 {u v : Nat → Rat} {b c m : Nat} (hm : m ≤ 4) (hu : Vsz b m u) (hv : Vsz c m v) : Sz (4 * (b + c) + 5) (Mine.dt m u v) := (hu.dt hv).le (by
  have : m * (b + c + 1) ≤ 4 * (b + c + 1) := Nat.mul_le_mul_right _ hm
  omega)
theorem idx_map {out : Nat → D} {r k : Nat} (h : k < r) : idx tr (.lst ((List.range r).map out)) (k : Int) = some (out k) := by
  show nth _ _ = _
  unfold nth
  rw [if_pos (by omega)]
  simp [h]
theorem idx_vec {m k : Nat} {u : Nat → Rat} (h : k < m) : idx tr (vecD m u) (k : Int) = some (frq (u k)) := idx_map h
theorem idx_mat {r m k : Nat} {M : Nat → Nat → Rat} (h : k < r) : idx tr (matD r m M) (k : Int) = some (vecD m (M k)) := idx_map h
theorem idx_natD {r k : Nat} {p : Nat → Nat} (h : k < r) : idx tr (natD r p) (k : Int) = some (.int (p k : Nat)) := idx_map h
theorem Fn_lenMap {out : Nat → D} {r : Nat} (h : r ≤ 1000) : Fn C n (.builtin "len") tr [.lst ((List.range r).map out)] tr (.int r) := by
  have := Fn_len (C := C) (n := n) (tr := tr) (d := .lst ((List.range r).map out)) (ds := (List.range r).map out) (.inl rfl) (by simp; omega)
  simpa using this
theorem Fn_lenV {m : Nat} {u : Nat → Rat} (h : m ≤ 1000) : Fn C n (.builtin "len") tr [vecD m u] tr (.int m) := Fn_lenMap h
theorem Fn_lenM {r m : Nat} {M : Nat → Nat → Rat} (h : r ≤ 1000) : Fn C n (.builtin "len") tr [matD r m M] tr (.int r) := Fn_lenMap h
theorem Fn_lenN {r : Nat} {p : Nat → Nat} (h : r ≤ 1000) : Fn C n (.builtin "len") tr [natD r p] tr (.int r) := Fn_lenMap h
theorem get_map {out : Nat → D} {r k : Nat} {e : D} (h : ((List.range r).map out)[k]? = some e) : k < r ∧ e = out k := by
  have hk := (List.getElem?_eq_some_iff.mp h).1
  simp only [List.length_map, List.length_range] at hk
  refine ⟨hk, ?_⟩
  simp [hk] at h; exact h.symm

end
local macro_rules | `(tactic| ktr_room) => `(tactic| first
  | ((with_reducible refine' idx_vec ?h); (case h => first | assumption | omega))
  | ((with_reducible refine' idx_mat ?h); (case h => first | assumption | omega))
  | ((with_reducible refine' idx_natD ?h); (case h => first | assumption | omega))
  | fail "no")
local macro_rules | `(tactic| kwd_inv) => `(tactic| first
  | ((with_reducible refine' Fn_lenV ?h); (case h => first | assumption | omega))
  | ((with_reducible refine' Fn_lenM ?h); (case h => first | assumption | omega))
  | ((with_reducible refine' Fn_lenN ?h); (case h => first | assumption | omega))
  | fail "no")
local macro_rules | `(tactic| ksw_less) => `(tactic| first
  | ((with_reducible refine' Vsz.at ?h ?k); (case h => assumption); (case k => assumption))
  | fail "no")
local macro_rules | `(tactic| ksw_less) => `(tactic| first
  | assumption
  | fail "no")
section
variable {C : Cx} {a : Addrs} {tr : List MObj} {n : Nat}

theorem weighted_spec (G : Glob C a) {m b c : Nat} {u : Nat → Rat} {w : Option (Nat → Rat)} (hm : m ≤ 1000) (hu : Vsz b m u) (hw : Wsz c m w) (hbc : b + c ≤ 134217728) : Fn C 4 (.ref a.f_weighted) tr [vecD m u, wD m w] tr (vecD m (wt w u)) := by
  cases w with
  | none =>
    refine Fn_ofΓ (Γ := [("values", vecD m u), ("weights", .none)]) G.d_weighted rfl rfl fun qual L code => ?_
    conv in (fbody _) => whnf
    refine Ex_if_ret (tr1 := tr) (by kst_p) (Ex_return ?_)
    show Ev _ _ _ _ _ _ _ (vecD m u)
    ktr_rel
  | some ws =>
    refine Fn_ofΓ (Γ := [("values", vecD m u), ("weights", vecD m ws)]) G.d_weighted rfl rfl fun qual L code => ?_
    conv in (fbody _) => whnf
    refine Ex_if_skip (tr1 := tr) (by kst_p) (Ex_return ?_)
    refine Ev_compR (fun k => frq (u k * ws k)) (fun _ => tr) [("values", vecD m u), ("weights", vecD m ws)] ?_ (show m ≤ 1000000 by omega) (by kernel_rfl) (by kwd_less) (fun k hk Lc => ?_) (fun _ => rfl)
    · ktr_rel
    · have h1 := hu k hk
      have h2 : Sz c (ws k) := hw k hk
      ktr_rel

theorem dot_spec (G : Glob C a) {m b c : Nat} {u v : Nat → Rat} (hm : m ≤ 4) (hu : Vsz b m u) (hv : Vsz c m v) (hbc : 10 * (b + c) ≤ 134217000) : Fn C 4 (.ref a.f_dot) tr [vecD m u, vecD m v] tr (frq (dt m u v)) := by
  refine Fn_ofΓ (Γ := [("u", vecD m u), ("v", vecD m v)]) G.d_dot rfl rfl fun qual L code => ?_
  conv in (fbody _) => whnf
  refine Ex_assign (tr1 := tr) (d := frq 0) (by ktr_rel) (by kernel_rfl) (by kernel_rfl) ?_
  refine Ex_forR (tr1 := tr) (N := m) ?_ (by omega) (fun k => [("total", frq (ps (fun k => u k * v k) k)), ("u", vecD m u), ("v", vecD m v)]) (fun _ => tr) rfl (by kwd_less) (fun k hk => ?_) (by kernel_rfl) (fun _ => rfl) (Ex_return ?_)
  · ktr_rel
  · have h1 := hu k hk
    have h2 := hv k hk
    have h3 := dt_size hu hv (Nat.le_of_lt hk)
    have hb1 : (1 + k * (b + c + 1)) + (b + c) ≤ 134217728 := by
      have : k * (b + c + 1) ≤ 4 * (b + c + 1) := Nat.mul_le_mul_right _ (by omega)
      omega
    have hb2 : b + c ≤ 134217728 := by omega
    by_cases hz : (u k).num ≠ 0 ∧ (v k).num ≠ 0
    · obtain ⟨z1, z2⟩ := hz
      refine Ex_if_next (tr1 := tr) (tr2 := tr) (Γ1 := [("total", frq (ps (fun k => u k * v k) (k + 1))), ("u", vecD m u), ("v", vecD m v)]) (Tt_and_true (by kst_p) (by kst_p)) ?_ (Ex_end (by kwd_less))
      refine Ex_assign (tr1 := tr) (d := frq (ps (fun k => u k * v k) (k + 1))) ?_ (by kernel_rfl) (by kernel_rfl) (Ex_end (by kwd_less))
      show Ev _ _ _ _ _ _ _ (frq (ps (fun k => u k * v k) k + u k * v k))
      ktr_rel
    · have e : ps (fun k => u k * v k) (k + 1) = ps (fun k => u k * v k) k := by
        show ps _ k + u k * v k = _
        have : u k * v k = 0 := by
          by_cases z1 : (u k).num = 0
          · rw [Rat.num_eq_zero.mp z1, Rat.zero_mul]
          · rw [Rat.num_eq_zero.mp (Classical.byContradiction fun z2 => hz ⟨z1, z2⟩), Rat.mul_zero]
        rw [this, Rat.add_zero]
      rw [e]
      by_cases z1 : (u k).num = 0
      · refine Ex_if_skip (tr1 := tr) (Tt_and_false (by kst_p)) (Ex_end (by kwd_less))
      · have z2 : (v k).num = 0 := Classical.byContradiction fun z2 => hz ⟨z1, z2⟩
        refine Ex_if_skip (tr1 := tr) (Tt_and_true (by kst_p) (by kst_p)) (Ex_end (by kwd_less))
  · show Ev _ _ _ _ _ _ _ (frq (ps (fun k => u k * v k) m))
    ktr_rel

theorem less_multiple_spec (G : Glob C a) {m b c d : Nat} {u v : Nat → Rat} {f : Rat} (hm : m ≤ 1000) (hu : Vsz b m u) (hv : Vsz c m v) (hf : Sz d f) (hbc : b + (d + c) ≤ 134217728) : Fn C 5 (.ref a.f_less_multiple) tr [vecD m u, frq f, vecD m v] tr (vecD m (fun k => u k - f * v k)) := by
  refine Fn_ofΓ (Γ := [("u", vecD m u), ("factor", frq f), ("v", vecD m v)]) G.d_less_multiple rfl rfl fun qual L code => ?_
  conv in (fbody _) => whnf
  by_cases hz : f.num = 0
  · refine Ex_if_ret (tr1 := tr) (by kst_p) (Ex_return ?_)
    rw [Rat.num_eq_zero.mp hz]
    have e : (fun k => u k - 0 * v k) = u := by funext k; rw [Rat.zero_mul, Rat.sub_eq_add_neg]; grind
    rw [e]
    ktr_rel
  · refine Ex_if_skip (tr1 := tr) (by kst_p) (Ex_return ?_)
    refine Ev_compR (fun k => frq (u k - f * v k)) (fun _ => tr) [("u", vecD m u), ("factor", frq f), ("v", vecD m v)] ?_ (show m ≤ 1000000 by omega) (by kernel_rfl) (by kwd_less) (fun k hk Lc => ?_) (fun _ => rfl)
    · ktr_rel
    · have h1 := hu k hk
      have h2 := hv k hk
      have h3 : d + c ≤ 134217728 := by omega
      ktr_rel

theorem check_finite_spec (G : Glob C a) {m : Nat} {u : Nat → Rat} {s : Str} (hm : m ≤ 1000) : Fn C 2 (.ref a.f_check_finite) tr [vecD m u, .str s] tr .none := by
  refine Fn_ofN (Γ := [("column", vecD m u), ("name", .str s)]) (Γ1 := []) G.d_check_finite rfl rfl fun qual L code => ?_
  conv in (fbody _) => whnf
  refine Ex_forL (ds := (List.range m).map fun k => frq (u k)) (tr1 := tr) ?_ (fun _ => [("column", vecD m u), ("name", .str s)]) (fun _ => tr) rfl (by kwd_less) (fun k e he => ?_) (by kernel_rfl) (fun _ => rfl) (Ex_end (by kwd_less))
  · show Ev _ _ _ _ _ _ _ (vecD m u)
    ktr_rel
  · obtain ⟨hk, rfl⟩ := get_map he
    have := den_pos (u k)
    refine Ex_if_skip (tr1 := tr) (Tt_not (b := true) (Tt_of (Tt_bool (b := decide (0 < ((u k).den : Int))) ?_ (fun _ => rfl)) (decide_eq_true this))) (Ex_end (by kwd_less))
    ktr_rel

theorem check_weights_spec (G : Glob C a) {m : Nat} {u : Nat → Rat} (hm : m ≤ 1000) (hu : ∀ k, k < m → 0 < (u k).num) : Fn C 2 (.ref a.f_check_weights) tr [vecD m u, .int m] tr .none := by
  refine Fn_ofN (Γ := [("weights", vecD m u), ("count", .int m)]) (Γ1 := []) G.d_check_weights rfl rfl fun qual L code => ?_
  conv in (fbody _) => whnf
  refine Ex_if_skip (tr1 := tr) (Tt_of (by kwd_rel) (by simp)) ?_
  refine Ex_forL (ds := (List.range m).map fun k => frq (u k)) (tr1 := tr) ?_ (fun _ => [("weights", vecD m u), ("count", .int m)]) (fun _ => tr) rfl (by kwd_less) (fun k e he => ?_) (by kernel_rfl) (fun _ => rfl) (Ex_end (by kwd_less))
  · show Ev _ _ _ _ _ _ _ (vecD m u)
    ktr_rel
  · obtain ⟨hk, rfl⟩ := get_map he
    have h0 := den_pos (u k)
    have := hu k hk
    refine Ex_if_skip (tr1 := tr) (Tt_or_false (tr1 := tr) (Tt_not (b := true) (Tt_of (Tt_bool (b := decide (0 < ((u k).den : Int))) ?_ (fun _ => rfl)) (decide_eq_true h0))) (by kst_p)) (Ex_end (by kwd_less))
    ktr_rel

theorem ldot_spec (G : Glob C a) {m b c : Nat} {u v : Nat → Rat} (hm : m ≤ 4) (hu : Vsz b m u) (hv : Vsz c m v) (hbc : 10 * (b + c) ≤ 134217000) : Fn C 4 (.ref a.f_law_dot) tr [vecD m u, vecD m v] tr (frq (dt m u v)) := by
  refine Fn_ofΓ (Γ := [("u", vecD m u), ("v", vecD m v)]) G.d_law_dot rfl rfl fun qual L code => ?_
  conv in (fbody _) => whnf
  refine Ex_assign (tr1 := tr) (d := frq 0) (Ev_of (d := .tup [.int 0, .int 1]) (by ktr_rel) rfl) (by kernel_rfl) (by kernel_rfl) ?_
  refine Ex_forR (tr1 := tr) (N := m) ?_ (by omega) (fun k => [("total", frq (ps (fun k => u k * v k) k)), ("u", vecD m u), ("v", vecD m v)]) (fun _ => tr) rfl (by kwd_less) (fun k hk => ?_) (by kernel_rfl) (fun _ => rfl) (Ex_return ?_)
  · ktr_rel
  · have h1 := hu k hk
    have h2 := hv k hk
    have h3 := dt_size hu hv (Nat.le_of_lt hk)
    have hb1 : (1 + k * (b + c + 1)) + (b + c) ≤ 134217728 := by
      have : k * (b + c + 1) ≤ 4 * (b + c + 1) := Nat.mul_le_mul_right _ (by omega)
      omega
    have hb2 : b + c ≤ 134217728 := by omega
    refine Ex_assign (tr1 := tr) (d := frq (ps (fun k => u k * v k) (k + 1))) ?_ (by kernel_rfl) (by kernel_rfl) (Ex_end (by kwd_less))
    show Ev _ _ _ _ _ _ _ (frq (ps (fun k => u k * v k) k + u k * v k))
    ktr_rel
  · show Ev _ _ _ _ _ _ _ (frq (ps (fun k => u k * v k) m))
    ktr_rel


local macro_rules | `(tactic| kwd_inv) => `(tactic| ((with_reducible refine' Fn.mono (ldot_spec ?g ?m ?u ?v ?b) ?l); (case g => assumption); (case m => assumption); (case u => first | assumption | (refine Vsz.row ?_ ?_ <;> assumption)); (case v => assumption); (case b => first | assumption | omega); (case l => decide)))
theorem Vsz.row {b m r i : Nat} {M : Nat → Nat → Rat} (h : ∀ i, i < r → Vsz b m (M i)) (hi : i < r) : Vsz b m (M i) := h i hi
theorem ltimes_spec (G : Glob C a) {r m b c : Nat} {M : Nat → Nat → Rat} {u : Nat → Rat} (hr : r ≤ 1000) (hm : m ≤ 4) (hM : ∀ i, i < r → Vsz b m (M i)) (hu : Vsz c m u) (hbc : 10 * (b + c) ≤ 134217000) :
    Fn C 5 (.ref a.f_law_times) tr [matD r m M, vecD m u] tr (vecD r (fun i => dt m (M i) u)) := by
  refine Fn_ofΓ (Γ := [("rows", matD r m M), ("column", vecD m u)]) G.d_law_times rfl rfl fun qual L code => ?_
  conv in (fbody _) => whnf
  refine Ex_return ?_
  refine Ev_of (Ev_compL (tr := tr) (ds := (List.range r).map fun i => vecD m (M i)) ((List.range r).map fun i => frq (dt m (M i) u)) (fun _ => tr) [("column", vecD m u)] ?_ (by simp; omega) (by kernel_rfl) (by kwd_less) (by simp) (fun k e o he ho Lc => ?_) (fun _ => rfl)) rfl
  · show Ev _ _ _ _ _ _ _ (matD r m M)
    ktr_rel
  · obtain ⟨hk, rfl⟩ := get_map he
    obtain ⟨_, rfl⟩ := get_map ho
    have h1 := hM k hk
    refine ⟨(fun c hc => nomatch hc), ?_⟩
    ktr_rel
end


local macro_rules | `(tactic| kwd_inv) => `(tactic| first
  | ((with_reducible refine' Fn.mono (weighted_spec ?g ?m ?u ?w ?b) ?l); (case g => assumption); (case m => first | assumption | omega); (case u => assumption); (case w => assumption); (case b => first | assumption | omega); (case l => decide))
  | ((with_reducible refine' Fn.mono (dot_spec ?g ?m ?u ?v ?b) ?l); (case g => assumption); (case m => first | assumption | omega); (case u => assumption); (case v => assumption); (case b => first | assumption | omega); (case l => decide))
  | ((with_reducible refine' Fn.mono (less_multiple_spec ?g ?m ?u ?v ?f ?b) ?l); (case g => assumption); (case m => first | assumption | omega); (case u => assumption); (case v => assumption); (case f => assumption); (case b => first | assumption | omega); (case l => decide))
  | ((with_reducible refine' Fn.mono (check_finite_spec ?g ?m) ?l); (case g => assumption); (case m => first | assumption | omega); (case l => decide))
  | ((with_reducible refine' Fn.mono (check_weights_spec ?g ?m ?u) ?l); (case g => assumption); (case m => first | assumption | omega); (case u => assumption); (case l => decide))
  | ((with_reducible refine' Fn.mono (ldot_spec ?g ?m ?u ?v ?b) ?l); (case g => assumption); (case m => first | assumption | omega); (case u => assumption); (case v => assumption); (case b => first | assumption | omega); (case l => decide))
  | ((with_reducible refine' Fn.mono (ltimes_spec ?g ?r ?m ?u ?v ?b) ?l); (case g => assumption); (case r => first | assumption | omega); (case m => first | assumption | omega); (case u => assumption); (case v => assumption); (case b => first | assumption | omega); (case l => decide))
  | fail "no")

section
variable {C : Cx} {a : Addrs} {tr tr1 tr2 tr3 : List MObj} {n : Nat} {env : Env} {Γ Γ1 : List (Str × D)} {rest : List Stmt} {o : Out}
def D.isRaw : D → Bool
  | .raw _ => true
  | _ => false
theorem raw_w {m : Nat} {w : Option (Nat → Rat)} : (wD m w).isRaw = false := by cases w <;> rfl
theorem Glob.fld (G : Glob C a) {x : Str} (h : fitNames.contains x = true) : ClsOk C a.Cl x := G.fields x (List.contains_iff_mem.mp h)
theorem Ev_attrG {oe : Expr} {x : Str} {pos : Pos} {dv d : D} (G : Glob C a) (ho : Ev C n env Γ tr oe tr1 dv) (hc : clsOf dv = some a.Cl) (hx : fitNames.contains x = true) (hd : fieldOf tr1 x dv = some d) (hr : d.isRaw = false)
    (he : eval (.Attribute oe x pos) env = (do
      let ov ← eval oe env
      standAt pos.atName
      let r ← holding [ov] (getAttr ov x true)
      letTemporaryGo oe ov r
      pure r)) : Ev C n env Γ tr (.Attribute oe x pos) tr1 d :=
  Ev_attr ho hc hd (G.fld hx) (fun v e => by subst e; cases hr) he
theorem field_inst {Cl : Addr} {m : Nat} {x : Str} {fs : List (Str × D)} {d : D} (hm : tr[m]? = some (.dct fs)) (h : fs.lookup x = some d) : fieldOf tr x (.inst Cl m) = some d := by
  show (match tr[m]? with | some (.dct fs) => fs.lookup x | _ => Option.none) = _
  rw [hm]; exact h
theorem field_obj {Cl : Addr} {x : Str} {fs : List (Str × D)} {d : D} (h : fs.lookup x = some d) : fieldOf tr x (.obj Cl fs) = some d := h
theorem idx_ptr {m k r : Nat} {out : Nat → D} (hm : tr[m]? = some (.lst ((List.range r).map out))) (h : k < r) : idx tr (.ptr m) (k : Int) = some (out k) := by
  show (match tr[m]? with | some (.lst ds) => nth ds k | _ => Option.none) = _
  rw [hm]; exact idx_map (tr := tr) h
theorem Fn_lenP {m r : Nat} {out : Nat → D} (hm : tr[m]? = some (.lst ((List.range r).map out))) (h : r ≤ 1000) : Fn C n (.builtin "len") tr [.ptr m] tr (.int r) := by
  have := Fn_len (C := C) (n := n) (tr := tr) (d := .ptr m) (ds := (List.range r).map out) (.inr ⟨m, rfl, hm⟩) (by simp; omega)
  simpa using this
theorem Fn_len0 {m : Nat} (hm : tr[m]? = some (.lst [])) : Fn C n (.builtin "len") tr [.ptr m] tr (.int 0) := Fn_len (C := C) (n := n) (tr := tr) (d := .ptr m) (ds := []) (.inr ⟨m, rfl, hm⟩) (by simp)
theorem Ex_setattr {oe value : Expr} {x : Str} {ap pos : Pos} {m : Nat} {fs : List (Str × D)} {d : D} (G : Glob C a) (hv : Ev C n env Γ tr value tr1 d) (ho : Ev C n env Γ tr1 oe tr2 (.inst a.Cl m)) (hm : tr2[m]? = some (.dct fs))
    (hx : fitNames.contains x = true) (hz : fs.length ≤ 500) (hs : swapsWith value (some (.Attribute oe x ap)) pos.line env = pure false) (he : tr2.set m (.dct (setF x d fs)) = tr3) (k : Ex C n env Γ tr3 rest o) :
    Ex C n env Γ tr (.Assign [.Attribute oe x ap] value pos :: rest) o := Ex_cons (Ex1_setattr hv ho hm (G.fld hx) hz hs) (he ▸ k)
theorem Ex_append {oe e : Expr} {ap pos pos2 : Pos} {m : Nat} {ds ds1 : List D} {d : D} (ho : Ev C n env Γ tr oe tr1 (.ptr m)) (he : Ev C n env Γ tr1 e tr2 d) (hm1 : tr1[m]? = some (.lst ds1)) (hm : tr2[m]? = some (.lst ds)) (hz : ds.length ≤ 1000000)
    (hst : starEach [e] env = [(false, eval e env)])
    (hi : interactive env = false) (hs : swapsWith (.Call (.Attribute oe (PySem.Str.ofString "append") ap) [e] [] pos) none pos2.line env = pure false)
    (hf : ∃ pl, eval (.Call (.Attribute oe (PySem.Str.ofString "append") ap) [e] [] pos) env = (do
      let ov ← eval oe env
      standAt ap.atName
      let (f, first) ← holding [ov] (getMethod ov (PySem.Str.ofString "append") pl)
      callWith pos f first (backTo pos (starEach [e] env)) []))
    (h3 : tr2.set m (.lst (ds ++ [d])) = tr3) (k : Ex C n env Γ tr3 rest o) :
    Ex C n env Γ tr (.Expr (.Call (.Attribute oe (PySem.Str.ofString "append") ap) [e] [] pos) pos2 :: rest) o := Ex_cons (Ex1_append ho he ⟨_, hm1⟩ hm hz hst hi hs hf) (h3 ▸ k)
end
local macro_rules | `(tactic| ktr_room) => `(tactic| first
  | ((with_reducible refine' idx_ptr ?m ?h); (case m => rfl); (case h => first | assumption | omega))
  | fail "no")
local macro_rules | `(tactic| kwd_inv) => `(tactic| first
  | ((with_reducible refine' Fn_len0 ?m); (case m => rfl))
  | ((with_reducible refine' Fn_lenP ?m ?h); (case m => rfl); (case h => first | assumption | omega))
  | fail "no")
-- kst_all: a field
local macro_rules | `(tactic| kst_all) => `(tactic| first
  | ((with_reducible refine' field_inst ?m ?l); (case m => rfl); (case l => ktd_rel))
  | ((with_reducible refine' field_obj ?l); (case l => ktd_rel))
  | fail "no")
local macro_rules | `(tactic| ktr_rel) => `(tactic| first
  | ((with_reducible refine' Ev_attrG ?g ?o ?c ?x ?d ?r ?e); (case g => assumption); (case o => ktr_rel); (case c => rfl); (case x => kernel_rfl!); (case d => kst_all); (case r => first | rfl | exact raw_w); (case e => rfl))
  | fail "no")
local macro_rules | `(tactic| ktr_rel) => `(tactic| first
  | ((with_reducible refine' Ev_listM ?a ?z); (case a => with_reducible exact Evs_nil); (case z => exact Nat.le_of_ble_eq_true rfl))
  | fail "no")
-- kst_p2: a statement that turns a location
local macro_rules | `(tactic| kst_p2) => `(tactic| first
  | ((with_reducible refine' Ex_setattr ?g ?v ?o ?m ?x ?z ?s ?e ?k); (case g => assumption); (case v => ktr_rel); (case o => ktr_rel); (case m => rfl); (case x => kernel_rfl!); (case z => exact Nat.le_of_ble_eq_true rfl); (case s => kernel_rfl); (case e => rfl))
  | ((with_reducible refine' Ex_append ?o ?e ?m ?n ?z ?s ?i ?w ?f ?h ?k); (case o => ktr_rel); (case e => ktr_rel); (case m => rfl); (case n => rfl); (case z => simp; omega); (case s => kernel_rfl); (case i => kernel_rfl); (case w => kernel_rfl); (case f => exact ⟨_, rfl⟩); (case h => rfl))
  | fail "no")
section
variable {C : Cx} {a : Addrs} {tr : List MObj} {n : Nat}
def fitM (pv bs nm sh st co fi rs : List D) (w : D) (r df : Int) : List MObj :=
  [.lst pv, .lst bs, .lst nm, .lst sh, .dct [("pivots", .ptr 0), ("bases", .ptr 1), ("norms", .ptr 2), ("shares", .ptr 3), ("steps", .ptr 5), ("coefficients", .ptr 6), ("fitted", .ptr 7), ("residuals", .ptr 8), ("weights", w), ("rank", .int r), ("df", .int df)], .lst st, .lst co, .lst fi, .lst rs]

theorem Fit_spec (G : Glob C a) : Fn C 2 (.ref a.Cl) [.lst [], .lst [], .lst [], .lst []] [.ptr 0, .ptr 1, .ptr 2, .ptr 3] (fitM [] [] [] [] [] [] [] [] .none 0 0) (.inst a.Cl 4) := by
  refine Fn_new (names := ["self", "pivots", "bases", "norms", "shares"]) (Γ1 := []) G.makes G.init G.initFn G.d_init rfl fun qual L code => ?_
  conv in (ibody) => whnf
  refine Ex_pre (Γ1 := [("self", .inst a.Cl 4), ("pivots", .ptr 0), ("bases", .ptr 1), ("norms", .ptr 2), ("shares", .ptr 3)]) ?_ (fun _ _ h => h)
  show Ex C 1 _ _ [.lst [], .lst [], .lst [], .lst [], .dct []] _ _
  kst_p2
  kst_p2
  kst_p2
  kst_p2
  kst_p2
  kst_p2
  kst_p2
  kst_p2
  kst_p2
  kst_p2
  kst_p2
  refine Ex_of (Ex_end (Γ2 := []) trivial) ?_
  kernel_rfl
end


section
variable {C : Cx} {a : Addrs} {tr tr1 tr2 tr3 : List MObj} {n : Nat} {env : Env} {Γ Γ1 : List (Str × D)} {rest : List Stmt} {o : Out}
theorem Ex_returnT {e : Expr} {pos : Pos} {d : D} (h : Ev C n env Γ tr e tr1 d) (he : tr1 = tr2) : Ex C n env Γ tr (.Return (some e) pos :: rest) (.ret tr2 d) := he ▸ Ex_return h
theorem Fn_listV {m : Nat} {u : Nat → Rat} (h : m ≤ 1000) : Fn C n (.type "list") tr [vecD m u] tr (vecD m u) :=
  Fn_list (C := C) (n := n) (tr := tr) (d := vecD m u) (ds := (List.range m).map fun k => frq (u k)) (.inl rfl) (by simp; omega)
def upN {α : Type} (g : Nat → α) (r : Nat) (x : α) : Nat → α := fun i => if i = r then x else g i
theorem snocU {α : Type} (f : Nat → α → D) (g : Nat → α) (r : Nat) (x : α) : (List.range r).map (fun i => f i (g i)) ++ [f r x] = (List.range (r + 1)).map fun i => f i (upN g r x i) := by
  rw [List.range_succ, List.map_append]
  congr 1
  · apply List.map_congr_left
    intro i hi
    have := List.mem_range.mp hi
    unfold upN
    rw [if_neg (by omega)]
  · simp [upN]
theorem snocR {out : Nat → D} {r : Nat} : (List.range r).map out ++ [out r] = (List.range (r + 1)).map out := by
  rw [List.range_succ, List.map_append]; rfl
theorem lim_frq {n : Nat} {q : Rat} : (frq q).lim n = true := rfl
theorem lim_map {n r : Nat} {out : Nat → D} (h : ∀ i, i < r → (out i).lim n = true) : D.lims n ((List.range r).map out) = true := by
  rw [lims_iff]
  intro d hd
  obtain ⟨i, hi, rfl⟩ := List.mem_map.mp hd
  exact h i (List.mem_range.mp hi)
theorem lim_vec {n m : Nat} {u : Nat → Rat} : (vecD m u).lim n = true := by
  show D.lims n _ = true
  exact lim_map fun i _ => rfl
theorem lim_mat {n r m : Nat} {M : Nat → Nat → Rat} : (matD r m M).lim n = true := by
  show D.lims n _ = true
  exact lim_map fun i _ => lim_vec
theorem lim_w {n m : Nat} {w : Option (Nat → Rat)} : (wD m w).lim n = true := by
  cases w with
  | none => rfl
  | some ws => exact lim_vec

/-! the bases -/
def red (m : Nat) (w : Option (Nat → Rat)) (e : Nat → Nat → Rat) (nm : Nat → Rat) (u : Nat → Rat) : Nat → Nat → Rat
  | 0 => u
  | t + 1 => fun i => red m w e nm u t i - (dt m (wt w (red m w e nm u t)) (e t) / nm t) * e t i
def fac (m : Nat) (w : Option (Nat → Rat)) (e : Nat → Nat → Rat) (nm : Nat → Rat) (u : Nat → Rat) (t : Nat) : Rat := dt m (wt w (red m w e nm u t)) (e t) / nm t
structure GS where
  r : Nat
  pv : Nat → Nat
  e : Nat → Nat → Rat
  nm : Nat → Rat
  sh : Nat → Nat → Rat
def gsB (m : Nat) (w : Option (Nat → Rat)) (S : GS) (u : Nat → Rat) : Nat → Rat := red m w S.e S.nm u S.r
def gsQ (m : Nat) (w : Option (Nat → Rat)) (S : GS) (u : Nat → Rat) : Rat := dt m (wt w (gsB m w S u)) (gsB m w S u)
def gsPush (m : Nat) (w : Option (Nat → Rat)) (S : GS) (k : Nat) (u : Nat → Rat) : GS :=
  ⟨S.r + 1, upN S.pv S.r k, upN S.e S.r (gsB m w S u), upN S.nm S.r (gsQ m w S u), upN S.sh S.r (fac m w S.e S.nm u)⟩
def gsNext (m : Nat) (w : Option (Nat → Rat)) (S : GS) (k : Nat) (u : Nat → Rat) : GS := if (gsQ m w S u).num = 0 then S else gsPush m w S k u
def gs (m : Nat) (w : Option (Nat → Rat)) (M : Nat → Nat → Rat) : Nat → GS
  | 0 => ⟨0, fun _ => 0, fun _ _ => 0, fun _ => 0, fun _ _ => 0⟩
  | k + 1 => gsNext m w (gs m w M k) k (M k)
def gsM (m : Nat) (S : GS) (r : Int) : List MObj :=
  fitM ((List.range S.r).map fun i => .int (S.pv i : Nat)) ((List.range S.r).map fun i => vecD m (S.e i)) ((List.range S.r).map fun i => frq (S.nm i)) ((List.range S.r).map fun i => vecD i (S.sh i)) [] [] [] [] .none r 0

theorem gsM_lim {m : Nat} {S : GS} {r : Int} : ∀ x ∈ gsM m S r, x.lim 9 = true := by
  intro x hx
  unfold gsM fitM at hx
  simp only [List.mem_cons, List.mem_nil_iff, or_false] at hx
  rcases hx with rfl | rfl | rfl | rfl | rfl | rfl | rfl | rfl | rfl
  · exact lim_map fun i _ => rfl
  · exact lim_map fun i _ => lim_vec
  · exact lim_map fun i _ => rfl
  · exact lim_map fun i _ => lim_vec
  all_goals rfl
/-! sizes -/
def sB : Nat → Nat
  | 0 => 3
  | t + 1 => 18 * sB t + 27
def nB (t : Nat) : Nat := 8 * sB t + 13
theorem sB2 {t : Nat} (h : t ≤ 2) : sB t ≤ 1485 := by
  match t, h with
  | 0, _ => decide
  | 1, _ => decide
  | 2, _ => decide
theorem sB3 {t : Nat} (h : t ≤ 3) : sB t ≤ 26757 := by
  match t, h with
  | 0, _ => decide
  | 1, _ => decide
  | 2, _ => decide
  | 3, _ => decide
structure GsOk (m : Nat) (S : GS) : Prop where
  e : ∀ i, i < S.r → Vsz (sB i) m (S.e i)
  nm : ∀ i, i < S.r → Sz (nB i) (S.nm i)
  nz : ∀ i, i < S.r → S.nm i ≠ 0
  sh : ∀ i, i < S.r → ∀ t, t < i → Sz (2 * nB t) (S.sh i t)
theorem red_size {m : Nat} {w : Option (Nat → Rat)} {S : GS} {u : Nat → Rat} (hm : m ≤ 4) (hw : Wsz 2 m w) (H : GsOk m S) (hu : Vsz 3 m u) : ∀ t, t ≤ S.r → Vsz (sB t) m (red m w S.e S.nm u t)
  | 0, _ => hu
  | t + 1, ht => by
    have h1 := red_size hm hw H hu t (by omega)
    have h2 := H.e t (by omega)
    have h3 := (hw.wt h1).dt4 hm h2
    have h4 := H.nm t (by omega)
    intro k hk
    refine ((h1 k hk).sub ((h3.div h4).mul (h2 k hk))).le ?_
    unfold nB; simp only [sB]; omega
theorem fac_size {m : Nat} {w : Option (Nat → Rat)} {S : GS} {u : Nat → Rat} (hm : m ≤ 4) (hw : Wsz 2 m w) (H : GsOk m S) (hu : Vsz 3 m u) {t : Nat} (ht : t < S.r) : Sz (2 * nB t) (fac m w S.e S.nm u t) := by
  have h1 := red_size hm hw H hu t (by omega)
  have h3 := (hw.wt h1).dt4 hm (H.e t ht)
  refine (h3.div (H.nm t ht)).le ?_
  unfold nB; omega
theorem gsQ_size {m : Nat} {w : Option (Nat → Rat)} {S : GS} {u : Nat → Rat} (hm : m ≤ 4) (hw : Wsz 2 m w) (H : GsOk m S) (hu : Vsz 3 m u) : Sz (nB S.r) (gsQ m w S u) := by
  have h1 := red_size hm hw H hu S.r (Nat.le_refl _)
  refine ((hw.wt h1).dt4 hm h1).le ?_
  unfold nB; omega
theorem gsOk {m : Nat} {w : Option (Nat → Rat)} {M : Nat → Nat → Rat} {c : Nat} (hm : m ≤ 4) (hw : Wsz 2 m w) (hM : ∀ i, i < c → Vsz 3 m (M i)) : ∀ k, k ≤ c → GsOk m (gs m w M k) ∧ (gs m w M k).r ≤ k
  | 0, _ => ⟨⟨fun i h => absurd h (Nat.not_lt_zero i), fun i h => absurd h (Nat.not_lt_zero i), fun i h => absurd h (Nat.not_lt_zero i), fun i h => absurd h (Nat.not_lt_zero i)⟩, Nat.le_refl _⟩
  | k + 1, hk => by
    obtain ⟨H, hr⟩ := gsOk hm hw hM k (by omega)
    have hu := hM k (by omega)
    show GsOk m (gsNext _ _ _ _ _) ∧ (gsNext _ _ _ _ _).r ≤ _
    unfold gsNext
    split
    · exact ⟨H, by omega⟩
    · rename_i hz
      refine ⟨⟨fun i hi => ?_, fun i hi => ?_, fun i hi => ?_, fun i hi => ?_⟩, by show (gs m w M k).r + 1 ≤ _; omega⟩
      all_goals
        have hi' : i < (gs m w M k).r + 1 := hi
        simp only [gsPush, upN]
        split
        next h => first
          | (subst h; exact red_size hm hw H hu _ (Nat.le_refl _))
          | (subst h; exact gsQ_size hm hw H hu)
          | (exact fun h0 => hz (by rw [h0]; rfl))
          | (subst h; exact fun t ht => fac_size hm hw H hu ht)
        next h => first
          | exact H.e i (by omega)
          | exact H.nm i (by omega)
          | exact H.nz i (by omega)
          | exact H.sh i (by omega)
end
local macro_rules | `(tactic| kst_p2) => `(tactic| first
  | ((with_reducible refine' Ex_assign ?v ?k ?s ?r); (case v => ktr_rel); (case k => kernel_rfl); (case s => kernel_rfl))
  | fail "no")
local macro_rules | `(tactic| kwd_inv) => `(tactic| first
  | ((with_reducible refine' Fn_listV ?h); (case h => first | assumption | omega))
  | ((with_reducible refine' Fn.mono (Fit_spec ?g) ?l); (case g => assumption); (case l => decide))
  | fail "no")
local macro_rules | `(tactic| kst_p2) => `(tactic| first
  | ((with_reducible refine' Ex_returnT ?v ?e); (case v => ktr_rel); (case e => kernel_rfl))
  | fail "no")
section
variable {C : Cx} {a : Addrs} {tr : List MObj} {n : Nat}
theorem orthogonal_spec (G : Glob C a) {m c : Nat} {w : Option (Nat → Rat)} {M : Nat → Nat → Rat} (hm : m ≤ 4) (hc : c ≤ 3) (hw : Wsz 2 m w) (hM : ∀ i, i < c → Vsz 3 m (M i)) :
    Fn C 6 (.ref a.f_orthogonal) [] [matD c m M, wD m w] (gsM m (gs m w M c) (gs m w M c).r) (.inst a.Cl 4) := by
  refine Fn_ofΓ (Γ := [("columns", matD c m M), ("weights", wD m w)]) G.d_orthogonal rfl rfl fun qual L code => ?_
  conv in (fbody _) => whnf
  have hm' : m ≤ 1000 := by omega
  have hc' : c ≤ 1000 := by omega
  kst_p2
  refine Ex_forR (tr1 := fitM [] [] [] [] [] [] [] [] .none 0 0) (N := c) ?_ (by omega) (fun k => [("found", .inst a.Cl 4), ("columns", matD c m M), ("weights", wD m w)]) (fun k => gsM m (gs m w M k) 0) rfl (by kwd_less) (fun k hk => ?_) (by kernel_rfl) (fun _ => rfl) ?_
  · ktr_rel
  · obtain ⟨H, hr⟩ := gsOk hm hw hM k (by omega)
    show Ex _ _ _ _ _ _ (.next _ (gsM m (gsNext m w (gs m w M k) k (M k)) 0))
    generalize gs m w M k = S at H hr ⊢
    have hu := hM k hk
    have hmk : k < c := hk
    generalize hMk : M k = u at hu ⊢
    have hr2 : S.r ≤ 2 := by omega
    refine Ex_drop (ex := if (gsQ m w S u).num = 0 then [.lst ((List.range S.r).map fun i => frq (fac m w S.e S.nm u i))] else [.dead]) ?_ (Nat.le_refl 9) ?_ gsM_lim
    case refine_2 =>
      intro p hp
      simp only [List.mem_cons, List.mem_nil_iff, or_false] at hp
      rcases hp with rfl | rfl | rfl
      · rfl
      · exact lim_mat
      · exact lim_w
    kst_p2
    kst_p2
    refine Ex_forR (tr1 := gsM m S 0 ++ [.lst []]) (N := S.r) ?_ (by omega) (fun t => [("base", vecD m (red m w S.e S.nm u t)), ("share", .ptr 9), ("place", .int k), ("found", .inst a.Cl 4), ("columns", matD c m M), ("weights", wD m w)])
      (fun t => gsM m S 0 ++ [.lst ((List.range t).map fun i => frq (fac m w S.e S.nm u i))]) rfl (by subst hMk; kwd_less) (fun t ht => ?_) (by kernel_rfl) (fun _ => rfl) ?_
    · ktr_rel
    · have h1 := red_size hm hw H hu t (by omega)
      have h2 := H.e t ht
      have h3 := hw.wt h1
      have h4 := h3.dt4 hm h2
      have h5 := H.nm t ht
      have h6 := H.nz t ht
      have h7 := fac_size hm hw H hu ht
      have b1 := sB2 (t := t) (by omega)
      have b2 : nB t = 8 * sB t + 13 := rfl
      have ht' : t ≤ 1000 := by omega
      refine Ex_assign (tr1 := gsM m S 0 ++ [.lst ((List.range t).map fun i => frq (fac m w S.e S.nm u i))]) (d := frq (fac m w S.e S.nm u t)) ?_ (by kernel_rfl) (by kernel_rfl) ?_
      · show Ev _ _ _ _ _ _ _ (frq (dt m (wt w (red m w S.e S.nm u t)) (S.e t) / S.nm t))
        ktr_rel
      kst_p2
      kst_p2
      refine Ex_of (Ex_end (Γ2 := [("base", vecD m (red m w S.e S.nm u (t + 1))), ("share", .ptr 9), ("place", .int k), ("found", .inst a.Cl 4), ("columns", matD c m M), ("weights", wD m w)]) (by kwd_less)) ?_
      show Out.next _ (gsM m S 0 ++ [.lst ((List.range t).map (fun i => frq (fac m w S.e S.nm u i)) ++ [frq (fac m w S.e S.nm u t)])]) = _
      rw [snocR (out := fun i => frq (fac m w S.e S.nm u i))]
    have h1 := red_size hm hw H hu S.r (Nat.le_refl _)
    have h3 := hw.wt h1
    have h4 := gsQ_size hm hw H hu
    have b1 := sB2 hr2
    have b2 : nB S.r = 8 * sB S.r + 13 := rfl
    refine Ex_assign (tr1 := gsM m S 0 ++ [.lst ((List.range S.r).map fun i => frq (fac m w S.e S.nm u i))]) (d := frq (gsQ m w S u)) ?_ (by kernel_rfl) (by kernel_rfl) ?_
    · show Ev _ _ _ _ _ _ _ (frq (dt m (wt w (red m w S.e S.nm u S.r)) (red m w S.e S.nm u S.r)))
      ktr_rel
    by_cases hz : (gsQ m w S u).num = 0
    · have e1 : gsNext m w S k u = S := by unfold gsNext; rw [if_pos hz]
      rw [e1]
      rw [if_pos hz]
      refine Ex_if_skip (tr1 := gsM m S 0 ++ [.lst ((List.range S.r).map fun i => frq (fac m w S.e S.nm u i))]) (by kst_p) (Ex_end (by kwd_less))
    · have e1 : gsNext m w S k u = gsPush m w S k u := by unfold gsNext; rw [if_neg hz]
      rw [e1]
      rw [if_neg hz]
      refine Ex_if_next (tr1 := gsM m S 0 ++ [.lst ((List.range S.r).map fun i => frq (fac m w S.e S.nm u i))]) (Γ1 := [("found", .inst a.Cl 4), ("columns", matD c m M), ("weights", wD m w)]) (tr2 := gsM m (gsPush m w S k u) 0 ++ [.dead]) (by kst_p) ?_ (Ex_end (by kwd_less))
      refine Ex_of (Ex_freeze_in (Γ1 := [("found", .inst a.Cl 4), ("columns", matD c m M), ("weights", wD m w)]) (m := 9) (r := 3) (ds := (List.range S.r).map fun i => frq (fac m w S.e S.nm u i)) (M := .lst ((List.range S.r).map (fun i => vecD i (S.sh i)) ++ [.ptr 9])) (M' := .lst ((List.range S.r).map (fun i => vecD i (S.sh i)) ++ [vecD S.r (fac m w S.e S.nm u)]))
        (tr1 := fitM ((List.range S.r).map (fun i => .int (S.pv i : Nat)) ++ [.int k]) ((List.range S.r).map (fun i => vecD m (S.e i)) ++ [vecD m (gsB m w S u)]) ((List.range S.r).map (fun i => frq (S.nm i)) ++ [frq (gsQ m w S u)]) ((List.range S.r).map (fun i => vecD i (S.sh i)) ++ [.ptr 9]) [] [] [] [] .none 0 0 ++ [.lst ((List.range S.r).map fun i => frq (fac m w S.e S.nm u i))])
        ?_ rfl rfl (by decide) (.lst (.snoc .ptr (.refl ..)))) ?_
      · kst_p2
        kst_p2
        kst_p2
        kst_p2
        refine Ex_of (Ex_end (Γ2 := [("found", .inst a.Cl 4), ("columns", matD c m M), ("weights", wD m w)]) (by kwd_less)) ?_
        kernel_rfl
      · show Out.next _ (fitM ((List.range S.r).map (fun i => .int (S.pv i : Nat)) ++ [.int k]) ((List.range S.r).map (fun i => vecD m (S.e i)) ++ [vecD m (gsB m w S u)]) ((List.range S.r).map (fun i => frq (S.nm i)) ++ [frq (gsQ m w S u)]) ((List.range S.r).map (fun i => vecD i (S.sh i)) ++ [vecD S.r (fac m w S.e S.nm u)]) [] [] [] [] .none 0 0 ++ [.dead]) = _
        rw [snocU (fun i (x : Nat) => D.int (x : Int)) S.pv, snocU (fun i x => vecD m x) S.e, snocU (fun i x => frq x) S.nm, snocU (fun i x => vecD i x) S.sh]
        rfl
  · have hr := (gsOk hm hw hM c (Nat.le_refl _)).2
    kst_p2
    kst_p2
end


local macro_rules | `(tactic| kwd_inv) => `(tactic| first
  | ((with_reducible refine' Fn.mono (orthogonal_spec ?g ?m ?c ?w ?u) ?l); (case g => assumption); (case m => assumption); (case c => assumption); (case w => assumption); (case u => assumption); (case l => decide))
  | fail "no")

section
variable {C : Cx} {a : Addrs} {tr tr1 tr2 tr3 tr4 : List MObj} {n : Nat} {env : Env} {Γ Γ1 : List (Str × D)} {rest : List Stmt} {o : Out}
theorem Ex_forD {x : Str} {xp pos : Pos} {iter : Expr} {body : List Stmt} {N : Nat} (hi : Ev C n env Γ tr iter tr1 (.rng ((N : Int) - 1) (-1) (-1))) (hN : N ≤ 1000000) (Γs : Nat → List (Str × D)) (trs : Nat → List MObj)
    (h0 : trs 0 = tr1) (g0 : Wk (Γs 0) Γ) (step : ∀ k, k < N → Ex C n env ((x, .int (N - 1 - k : Nat)) :: Γs k) (trs k) body (.next (Γs (k + 1)) (trs (k + 1)))) (hk : storesB env x = true)
    (hs : ∀ v, foldedSetIterable iter env v = pure v) (k : Ex C n env (Γs N) (trs N) rest o) :
    Ex C n env Γ tr (.For (.Name x xp) iter body [] pos :: rest) o := by
  have := Ex1_for (xp := xp) (pos := pos) (body := body) hi (src_down hN) Γs trs h0 g0.look (fun k e he => ?_) (stores_of hk) hs
  · simp only [List.length_map, List.length_range] at this
    exact Ex_cons this k
  · obtain ⟨hk, rfl⟩ := get_map he
    exact step k hk
theorem Ex_forR2 {x : Str} {xp pos : Pos} {iter : Expr} {body : List Stmt} {p q : Nat} (hi : Ev C n env Γ tr iter tr1 (.rng p q 1)) (hN : q ≤ 1000000) (hpq : p ≤ q) (Γs : Nat → List (Str × D)) (trs : Nat → List MObj)
    (h0 : trs 0 = tr1) (g0 : Wk (Γs 0) Γ) (step : ∀ k, k < q - p → Ex C n env ((x, .int (p + k : Nat)) :: Γs k) (trs k) body (.next (Γs (k + 1)) (trs (k + 1)))) (hk : storesB env x = true)
    (hs : ∀ v, foldedSetIterable iter env v = pure v) (k : Ex C n env (Γs (q - p)) (trs (q - p)) rest o) :
    Ex C n env Γ tr (.For (.Name x xp) iter body [] pos :: rest) o := by
  have := Ex1_for (xp := xp) (pos := pos) (body := body) hi (src_range2 hN hpq) Γs trs h0 g0.look (fun k e he => ?_) (stores_of hk) hs
  · simp only [List.length_map, List.length_range] at this
    exact Ex_cons this k
  · obtain ⟨hk, rfl⟩ := get_map (out := fun i => D.int ((p + i : Nat) : Int)) he
    exact step k hk
theorem Ex_setitem {oe i value : Expr} {sp pos : Pos} {m : Nat} {ds : List D} {d : D} {k : Int} (hv : Ev C n env Γ tr value tr1 d) (ho : Ev C n env Γ tr1 oe tr2 (.ptr m)) (hi : Ev C n env Γ tr2 i tr3 (.int k)) (hm : tr3[m]? = some (.lst ds))
    (h0 : 0 ≤ k) (hn : k < ds.length) (hfit : k < 2 ^ 62) (hs : swapsWith value (some (.Subscript oe i sp)) pos.line env = pure false) (he : tr3.set m (.lst (ds.set k.toNat d)) = tr4) (kk : Ex C n env Γ tr4 rest o) :
    Ex C n env Γ tr (.Assign [.Subscript oe i sp] value pos :: rest) o := Ex_cons (Ex1_setitem hv ho hi hm h0 hn hfit hs) (he ▸ kk)
theorem setU {α : Type} (f : α → D) (g : Nat → α) (r k : Nat) (x : α) : ((List.range r).map (fun i => f (g i))).set k (f x) = (List.range r).map fun i => f (upN g k x i) := by
  apply List.ext_getElem?
  intro i
  rw [List.getElem?_set]
  by_cases h : i < r
  · by_cases hk : k = i
    · subst hk; simp [h, upN]
    · have hk' : ¬ i = k := fun e => hk e.symm
      simp [h, hk, hk', upN]
  · have : (List.map (fun i => f (g i)) (List.range r))[i]? = none := by rw [List.getElem?_eq_none]; simp; omega
    have h2 : (List.map (fun i => f (upN g k x i)) (List.range r))[i]? = none := by rw [List.getElem?_eq_none]; simp; omega
    rw [this, h2]
    split
    · rename_i e; subst e; rw [if_neg (by simp; omega)]
    · rfl
end
local macro_rules | `(tactic| kwd_inv) => `(tactic| first
  | ((with_reducible refine' Fn_listM ?d ?z); (case d => exact .inr ⟨_, rfl, rfl⟩); (case z => simp; omega))
  | fail "no")
section
variable {C : Cx} {a : Addrs} {tr : List MObj} {n : Nat}
theorem used_rows_spec (G : Glob C a) {m : Nat} {w : Option (Nat → Rat)} (hm : m ≤ 1000) (hw : ∀ ws, w = some ws → ∀ k, k < m → 0 < (ws k).num) : Fn C 2 (.ref a.f_used_rows) tr [.int m, wD m w] tr (.int m) := by
  cases w with
  | none =>
    refine Fn_ofΓ (Γ := [("count", .int m), ("weights", .none)]) G.d_used_rows rfl rfl fun qual L code => ?_
    conv in (fbody _) => whnf
    refine Ex_if_ret (tr1 := tr) (by kst_p) (Ex_return ?_)
    ktr_rel
  | some ws =>
    refine Fn_ofΓ (Γ := [("count", .int m), ("weights", vecD m ws)]) G.d_used_rows rfl rfl fun qual L code => ?_
    conv in (fbody _) => whnf
    refine Ex_if_skip (tr1 := tr) (by kst_p) (Ex_return ?_)
    refine Ev_callN (by ktn_open) (by kernel_rfl) (by kernel_rfl) (by kernel_rfl) (by kernel_rfl) (tr1 := tr) (ds := [vecD m ws]) (Evs_cons (tr1 := tr) (d := .lst ((List.range m).map fun k => frq (ws k))) ?_ Evs_nil (by kernel_rfl)) (Fn_lenV hm)
    refine Ev_of (Ev_compL (tr := tr) (ds := (List.range m).map fun i => frq (ws i)) ((List.range m).map fun i => frq (ws i)) (fun _ => tr) [] ?_ (by simp; omega) (by kernel_rfl) (by kwd_less) (by simp) (fun k e o he ho Lc => ?_) (fun _ => rfl)) rfl
    · show Ev _ _ _ _ _ _ _ (vecD m ws)
      ktr_rel
    · obtain ⟨hk, rfl⟩ := get_map he
      obtain ⟨_, rfl⟩ := get_map ho
      have := hw ws rfl k hk
      refine ⟨fun c hc => ?_, ?_⟩
      · simp only [List.mem_cons, List.mem_nil_iff, or_false] at hc
        subst hc
        kst_p
      · ktr_rel

/-! the coefficients -/
def bcIn (sh : Nat → Nat → Rat) (k : Nat) (V : Nat → Rat) : Nat → Nat → Rat
  | 0 => V
  | i + 1 => upN (bcIn sh k V i) k (bcIn sh k V i k - sh (k + 1 + i) k * bcIn sh k V i (k + 1 + i))
def bcOut (sh : Nat → Nat → Rat) (r : Nat) (V : Nat → Rat) : Nat → Nat → Rat
  | 0 => V
  | j + 1 => bcIn sh (r - 1 - j) (bcOut sh r V j) (r - (r - 1 - j + 1))
def tri : Nat → Nat
  | 0 => 0
  | j + 1 => tri j + j
def tB : Nat → Nat
  | 0 => 26213
  | s + 1 => 2 * tB s + 23787
theorem tB3 {s : Nat} (h : s ≤ 3) : tB s ≤ 400000 := by
  match s, h with
  | 0, _ => decide
  | 1, _ => decide
  | 2, _ => decide
  | 3, _ => decide
theorem tri2 {j i : Nat} (h : j ≤ 2) (hi : i ≤ j) : tri j + i ≤ 3 := by
  match j, h with
  | 0, _ => simp [tri]; omega
  | 1, _ => simp [tri]; omega
  | 2, _ => simp [tri]; omega
theorem tB_le (s : Nat) : tB s ≤ tB (s + 1) := by show _ ≤ 2 * tB s + 23787; omega
theorem bcIn_size {sh : Nat → Nat → Rat} {r k : Nat} {V : Nat → Rat} {s : Nat} (hsh : ∀ i, i < r → ∀ t, t < i → Sz 23786 (sh i t)) (hV : Vsz (tB s) r V) : ∀ i, k + i < r → Vsz (tB (s + i)) r (bcIn sh k V i)
  | 0, _ => hV
  | i + 1, hk => by
    have h1 := bcIn_size hsh hV i (k := k) (by omega)
    intro j hj
    show Sz (tB (s + i + 1)) _
    simp only [bcIn, upN]
    split
    · refine ((h1 k (by omega)).sub ((hsh (k + 1 + i) (by omega) k (by omega)).mul (h1 (k + 1 + i) (by omega)))).le ?_
      show _ ≤ 2 * tB (s + i) + 23787
      omega
    · exact (h1 j hj).le (tB_le _)
theorem bcOut_size {sh : Nat → Nat → Rat} {r : Nat} {V : Nat → Rat} (hsh : ∀ i, i < r → ∀ t, t < i → Sz 23786 (sh i t)) (hV : Vsz (tB 0) r V) : ∀ j, j ≤ r → Vsz (tB (tri j)) r (bcOut sh r V j)
  | 0, _ => hV
  | j + 1, hj => by
    have h1 := bcOut_size hsh hV j (by omega)
    have h2 := bcIn_size (k := r - 1 - j) hsh h1 (r - (r - 1 - j + 1)) (by omega)
    have e : r - (r - 1 - j + 1) = j := by omega
    show Vsz (tB (tri j + j)) r (bcIn _ _ _ (r - (r - 1 - j + 1)))
    rw [e] at h2 ⊢
    exact h2
def fitM2 (pv bs nm sh st co : List D) (r : Int) : List MObj :=
  [.lst pv, .lst bs, .lst nm, .lst sh, .dct [("pivots", .ptr 0), ("bases", .ptr 1), ("norms", .ptr 2), ("shares", .ptr 3), ("steps", .ptr 5), ("coefficients", .ptr 9), ("fitted", .ptr 7), ("residuals", .ptr 8), ("weights", .none), ("rank", .int r), ("df", .int 0)], .lst st, .lst [], .lst [], .lst [], .lst co]
theorem back_spec (G : Glob C a) {r : Nat} {sh : Nat → Nat → Rat} {st : Nat → Rat} {pv bs nm co : List D} (hr : r ≤ 3) (hsh : ∀ i, i < r → ∀ t, t < i → Sz 23786 (sh i t)) (hst : Vsz (tB 0) r st) :
    Fn C 5 (.ref a.f_back_coefficients) (fitM2 pv bs nm ((List.range r).map fun i => vecD i (sh i)) ((List.range r).map fun i => frq (st i)) co r) [.inst a.Cl 4] (fitM2 pv bs nm ((List.range r).map fun i => vecD i (sh i)) ((List.range r).map fun i => frq (st i)) co r) (vecD r (bcOut sh r st r)) := by
  refine Fn_drop0 (ex := [.dead]) ?_ lim_vec
  refine Fn_ofΓ (Γ := [("fitted", .inst a.Cl 4)]) G.d_back_coefficients rfl rfl fun qual L code => ?_
  conv in (fbody _) => whnf
  have hr' : r ≤ 1000 := by omega
  generalize hT : fitM2 pv bs nm ((List.range r).map fun i => vecD i (sh i)) ((List.range r).map fun i => frq (st i)) co r = T
  refine Ex_of (Ex_ret_freeze (m := 10) (ds := (List.range r).map fun i => frq (bcOut sh r st r i)) (tr1 := T ++ [.lst ((List.range r).map fun i => frq (bcOut sh r st r i))]) ?_ (by subst hT; rfl)) (by subst hT; rfl)
  subst hT
  kst_p2
  refine Ex_forD (tr1 := fitM2 pv bs nm ((List.range r).map fun i => vecD i (sh i)) ((List.range r).map fun i => frq (st i)) co r ++ [.lst ((List.range r).map fun i => frq (st i))]) (N := r) ?_ (by omega) (fun j => [("values", .ptr 10), ("fitted", .inst a.Cl 4)])
    (fun j => fitM2 pv bs nm ((List.range r).map fun i => vecD i (sh i)) ((List.range r).map fun i => frq (st i)) co r ++ [.lst ((List.range r).map fun i => frq (bcOut sh r st j i))]) rfl (by kwd_less) (fun j hj => ?_) (by kernel_rfl) (fun _ => rfl) ?_
  · ktr_rel
  · have b0 := bcOut_size hsh hst j (by omega)
    generalize hV : bcOut sh r st j = V at b0
    have hk : r - 1 - j < r := by omega
    refine Ex_forR2 (tr1 := fitM2 pv bs nm ((List.range r).map fun i => vecD i (sh i)) ((List.range r).map fun i => frq (st i)) co r ++ [.lst ((List.range r).map fun i => frq (V i))]) (p := r - 1 - j + 1) (q := r) ?_ (by omega) (by omega) (fun i => [("k", .int (r - 1 - j : Nat)), ("values", .ptr 10), ("fitted", .inst a.Cl 4)])
      (fun i => fitM2 pv bs nm ((List.range r).map fun i => vecD i (sh i)) ((List.range r).map fun i => frq (st i)) co r ++ [.lst ((List.range r).map fun x => frq (bcIn sh (r - 1 - j) V i x))]) rfl (by kwd_less) (fun i hi => ?_) (by kernel_rfl) (fun _ => rfl) ?_
    · show Ev _ _ _ _ _ _ _ (D.rng (((r - 1 - j : Nat) : Int) + 1) r 1)
      ktr_rel
    · have b1 := bcIn_size (k := r - 1 - j) hsh b0 i (by omega)
      have b2 := tB3 (tri2 (j := j) (i := i) (by omega) (by omega))
      have hl : r - 1 - j + 1 + i < r := by omega
      have hkl : r - 1 - j < r - 1 - j + 1 + i := by omega
      generalize r - 1 - j = k at *
      have c1 := b1 k hk
      have c2 := b1 (k + 1 + i) hl
      have c3 := hsh (k + 1 + i) hl k hkl
      have e1 : ((k : Nat) : Int).toNat = k := rfl
      refine Ex_setitem (tr1 := fitM2 pv bs nm ((List.range r).map fun i => vecD i (sh i)) ((List.range r).map fun i => frq (st i)) co r ++ [.lst ((List.range r).map fun x => frq (bcIn sh k V i x))]) (tr2 := fitM2 pv bs nm ((List.range r).map fun i => vecD i (sh i)) ((List.range r).map fun i => frq (st i)) co r ++ [.lst ((List.range r).map fun x => frq (bcIn sh k V i x))])
        (tr3 := fitM2 pv bs nm ((List.range r).map fun i => vecD i (sh i)) ((List.range r).map fun i => frq (st i)) co r ++ [.lst ((List.range r).map fun x => frq (bcIn sh k V i x))]) (m := 10) (k := (k : Nat)) (ds := (List.range r).map fun x => frq (bcIn sh k V i x))
        (d := frq (bcIn sh k V i k - sh (k + 1 + i) k * bcIn sh k V i (k + 1 + i))) ?_ (by ktr_rel) (by ktr_rel) rfl (by omega) (by simp; omega) (by omega) (by kernel_rfl) rfl ?_
      · ktr_rel
      · refine Ex_of (Ex_end (Γ2 := [("k", .int (k : Nat)), ("values", .ptr 10), ("fitted", .inst a.Cl 4)]) (by kwd_less)) ?_
        show Out.next _ (fitM2 pv bs nm _ _ co r ++ [.lst (((List.range r).map fun x => frq (bcIn sh k V i x)).set k (frq (bcIn sh k V i k - sh (k + 1 + i) k * bcIn sh k V i (k + 1 + i))))]) = _
        rw [setU frq]
        rfl
    · subst hV
      exact Ex_end (by kwd_less)
  · kst_p2
end


local macro_rules | `(tactic| kwd_inv) => `(tactic| first
  | ((with_reducible refine' Fn.mono (used_rows_spec ?g ?m ?w) ?l); (case g => assumption); (case m => first | assumption | omega); (case w => assumption); (case l => decide))
  | ((with_reducible refine' Fn.mono (back_spec ?g ?m ?w ?z) ?l); (case g => assumption); (case m => first | assumption | omega); (case w => assumption); (case z => assumption); (case l => decide))
  | fail "no")
local macro_rules | `(tactic| kst_p2) => `(tactic| first
  | ((with_reducible refine' Ex_expr ?v ?k ?s ?r); (case v => ktr_rel); (case k => kernel_rfl); (case s => kernel_rfl))
  | fail "no")

section
variable {C : Cx} {a : Addrs} {tr : List MObj} {n : Nat}
theorem flat1 {x : D} : ∀ j : Nat, (List.replicate j [x]).flatten = List.replicate j x
  | 0 => rfl
  | j + 1 => by rw [List.replicate_succ, List.flatten_cons, flat1 j]; rfl
def coefs (c : Nat) (pv : Nat → Nat) (V : Nat → Rat) : Nat → List D
  | 0 => List.replicate c .none
  | k + 1 => (coefs c pv V k).set (pv k) (frq (V k))
theorem coefs_len {c : Nat} {pv : Nat → Nat} {V : Nat → Rat} : ∀ k, (coefs c pv V k).length = c
  | 0 => by simp [coefs]
  | k + 1 => by simp [coefs, coefs_len k]
theorem gs_pv {m : Nat} {w : Option (Nat → Rat)} {M : Nat → Nat → Rat} : ∀ k i, i < (gs m w M k).r → (gs m w M k).pv i < k
  | 0, i, h => absurd h (Nat.not_lt_zero i)
  | k + 1, i, h => by
    have ih := gs_pv (m := m) (w := w) (M := M) k i
    revert h
    show i < (gsNext _ _ _ _ _).r → (gsNext _ _ _ _ _).pv i < _
    unfold gsNext
    split
    · intro h; have := ih h; omega
    · intro h
      have h' : i < (gs m w M k).r + 1 := h
      simp only [gsPush, upN]
      split
      · omega
      · have := ih (by omega); omega
def fitD (Cl : Addr) (m : Nat) (w : Option (Nat → Rat)) (S : GS) (co : List D) (st fi rs : Nat → Rat) : D :=
  .obj Cl [("pivots", natD S.r S.pv), ("bases", matD S.r m S.e), ("norms", vecD S.r S.nm), ("shares", .lst ((List.range S.r).map fun i => vecD i (S.sh i))), ("steps", vecD S.r st), ("coefficients", .lst co), ("fitted", vecD m fi), ("residuals", vecD m rs), ("weights", wD m w), ("rank", .int S.r), ("df", .int ((m : Int) - S.r))]
def fitFrom (Cl : Addr) (m c : Nat) (w : Option (Nat → Rat)) (y : Nat → Rat) (S : GS) : D :=
  fitD Cl m w S (coefs c S.pv (bcOut S.sh S.r (fac m w S.e S.nm y) S.r) S.r) (fac m w S.e S.nm y) (fun k => y k - red m w S.e S.nm y S.r k) (red m w S.e S.nm y S.r)
def fitOf (Cl : Addr) (m c : Nat) (w : Option (Nat → Rat)) (M : Nat → Nat → Rat) (y : Nat → Rat) : D := fitFrom Cl m c w y (gs m w M c)
theorem lim_coefs {c : Nat} {pv : Nat → Nat} {V : Nat → Rat} {n : Nat} : ∀ k, D.lims n (coefs c pv V k) = true
  | 0 => by rw [lims_iff]; intro d hd; rw [List.eq_of_mem_replicate hd]; rfl
  | k + 1 => by
    have ih := lim_coefs (c := c) (pv := pv) (V := V) (n := n) k
    rw [lims_iff] at ih ⊢
    intro d hd
    rcases List.mem_or_eq_of_mem_set hd with h | rfl
    · exact ih d h
    · rfl
theorem lim_fitD {Cl : Addr} {m : Nat} {w : Option (Nat → Rat)} {S : GS} {co : List D} {st fi rs : Nat → Rat} {n : Nat} (h : D.lims n co = true) : (fitD Cl m w S co st fi rs).lim n = true := by
  have e1 : (natD S.r S.pv).lim n = true := by show D.lims n _ = true; exact lim_map fun i _ => rfl
  have e2 : (D.lst ((List.range S.r).map fun i => vecD i (S.sh i))).lim n = true := by show D.lims n _ = true; exact lim_map fun i _ => lim_vec
  have e3 : (D.lst co).lim n = true := h
  unfold fitD
  show D.limF n _ = true
  simp only [D.limF, e1, e2, e3, lim_mat, lim_vec, lim_w, Bool.and_true]
  rfl

theorem fit_spec (G : Glob C a) {m c : Nat} {w : Option (Nat → Rat)} {M : Nat → Nat → Rat} {y : Nat → Rat} (hm : m ≤ 4) (hc : c ≤ 3) (hw : Wsz 2 m w) (hwp : ∀ ws, w = some ws → ∀ k, k < m → 0 < (ws k).num) (hM : ∀ i, i < c → Vsz 3 m (M i)) (hy : Vsz 3 m y) :
    Fn C 7 (.ref a.f_fit) [] [matD c m M, vecD m y, wD m w] [] (fitOf a.Cl m c w M y) := by
  have hm' : m ≤ 1000 := by omega
  have hc' : c ≤ 1000 := by omega
  obtain ⟨H, hr⟩ := gsOk hm hw hM c (Nat.le_refl _)
  have hpv := gs_pv (m := m) (w := w) (M := M) c
  refine Fn_drop0 (tr := []) (ex := [.dead, .dead, .dead, .dead, .dead, .dead, .lst [], .lst [], .lst [], .dead]) ?_ (lim_fitD (lim_coefs _))
  refine Fn_ofΓ (Γ := [("columns", matD c m M), ("y", vecD m y), ("weights", wD m w)]) G.d_fit rfl rfl fun qual L code => ?_
  conv in (fbody _) => whnf
  refine Ex_forL (ds := (List.range c).map fun i => vecD m (M i)) (tr1 := []) ?_ (fun _ => [("columns", matD c m M), ("y", vecD m y), ("weights", wD m w)]) (fun _ => []) rfl (by kwd_less) (fun k e he => ?_) (by kernel_rfl) (fun _ => rfl) ?_
  · show Ev _ _ _ _ _ _ _ (matD c m M)
    ktr_rel
  · obtain ⟨hk, rfl⟩ := get_map he
    refine Ex_if_skip (tr1 := []) (Tt_of (by kwd_rel) (by simp)) ?_
    kst_p2
    exact Ex_end (by kwd_less)
  kst_p2
  refine Ex_if_join (Γ1 := [("columns", matD c m M), ("y", vecD m y), ("weights", wD m w)]) (tr1 := []) (tr2 := []) (b := w.isSome) ?_ (fun hb => ?_) (fun _ => ⟨by kwd_less, rfl⟩) ?_
  · cases w with
    | none => kst_p
    | some ws => kst_p
  · cases w with
    | none => cases hb
    | some ws =>
      have hp := hwp ws rfl
      refine Ex_expr (Ev_callN (tr1 := []) (ds := [vecD m ws, .int m]) (by ktn_open) (by kernel_rfl) (by kernel_rfl) (by kernel_rfl) (by kernel_rfl) (by tb_rel) (by kwd_inv)) (by kernel_rfl) (by kernel_rfl) (Ex_end (by kwd_less))
  kst_p2
  kst_p2
  unfold fitOf
  generalize gs m w M c = S at H hr hpv ⊢
  unfold fitFrom
  have hr3 : S.r ≤ 3 := by omega
  refine Ex_forR (tr1 := gsM m S S.r) (N := S.r) ?_ (by omega) (fun t => [("rest", vecD m (red m w S.e S.nm y t)), ("found", .inst a.Cl 4), ("columns", matD c m M), ("y", vecD m y), ("weights", wD m w)])
    (fun t => fitM ((List.range S.r).map fun i => .int (S.pv i : Nat)) ((List.range S.r).map fun i => vecD m (S.e i)) ((List.range S.r).map fun i => frq (S.nm i)) ((List.range S.r).map fun i => vecD i (S.sh i)) ((List.range t).map fun i => frq (fac m w S.e S.nm y i)) [] [] [] .none S.r 0) rfl (by kwd_less) (fun t ht => ?_) (by kernel_rfl) (fun _ => rfl) ?_
  · ktr_rel
  · have h1 := red_size hm hw H hy t (by omega)
    have h2 := H.e t ht
    have h3 := hw.wt h1
    have h4 := h3.dt4 hm h2
    have h5 := H.nm t ht
    have h6 := H.nz t ht
    have h7 := fac_size hm hw H hy ht
    have b1 := sB2 (t := t) (by omega)
    have b2 : nB t = 8 * sB t + 13 := rfl
    have ht' : t ≤ 1000 := by omega
    refine Ex_assign (tr1 := fitM ((List.range S.r).map fun i => .int (S.pv i : Nat)) ((List.range S.r).map fun i => vecD m (S.e i)) ((List.range S.r).map fun i => frq (S.nm i)) ((List.range S.r).map fun i => vecD i (S.sh i)) ((List.range t).map fun i => frq (fac m w S.e S.nm y i)) [] [] [] .none S.r 0) (d := frq (fac m w S.e S.nm y t)) ?_ (by kernel_rfl) (by kernel_rfl) ?_
    · show Ev _ _ _ _ _ _ _ (frq (dt m (wt w (red m w S.e S.nm y t)) (S.e t) / S.nm t))
      ktr_rel
    kst_p2
    kst_p2
    refine Ex_of (Ex_end (Γ2 := [("rest", vecD m (red m w S.e S.nm y (t + 1))), ("found", .inst a.Cl 4), ("columns", matD c m M), ("y", vecD m y), ("weights", wD m w)]) (by kwd_less)) ?_
    show Out.next _ (fitM _ _ _ _ ((List.range t).map (fun i => frq (fac m w S.e S.nm y i)) ++ [frq (fac m w S.e S.nm y t)]) _ _ _ .none S.r 0) = _
    rw [snocR (out := fun i => frq (fac m w S.e S.nm y i))]
  have hst : Vsz (tB 0) S.r (fac m w S.e S.nm y) := fun t ht => (fac_size hm hw H hy ht).le (by
    have := sB2 (t := t) (by omega)
    have : nB t = 8 * sB t + 13 := rfl
    show _ ≤ 26213
    omega)
  have hsh : ∀ i, i < S.r → ∀ t, t < i → Sz 23786 (S.sh i t) := fun i hi t ht => (H.sh i hi t ht).le (by
    have := sB2 (t := t) (by omega)
    have : nB t = 8 * sB t + 13 := rfl
    omega)
  have hvs := bcOut_size hsh hst S.r (Nat.le_refl _)
  have hrs := red_size hm hw H hy S.r (Nat.le_refl _)
  have hrs3 := sB3 hr3
  have hr' : S.r ≤ 1000 := by omega
  have hjn : ((c : Nat) : Int).toNat = c := rfl
  refine Ex_setattr (m := 4) (fs := [("pivots", .ptr 0), ("bases", .ptr 1), ("norms", .ptr 2), ("shares", .ptr 3), ("steps", .ptr 5), ("coefficients", .ptr 6), ("fitted", .ptr 7), ("residuals", .ptr 8), ("weights", .none), ("rank", .int S.r), ("df", .int 0)])
    (tr1 := fitM ((List.range S.r).map fun i => .int (S.pv i : Nat)) ((List.range S.r).map fun i => vecD m (S.e i)) ((List.range S.r).map fun i => frq (S.nm i)) ((List.range S.r).map fun i => vecD i (S.sh i)) ((List.range S.r).map fun i => frq (fac m w S.e S.nm y i)) [] [] [] .none S.r 0 ++ [.lst (List.replicate ((c : Nat) : Int).toNat [D.none]).flatten])
    (tr2 := fitM ((List.range S.r).map fun i => .int (S.pv i : Nat)) ((List.range S.r).map fun i => vecD m (S.e i)) ((List.range S.r).map fun i => frq (S.nm i)) ((List.range S.r).map fun i => vecD i (S.sh i)) ((List.range S.r).map fun i => frq (fac m w S.e S.nm y i)) [] [] [] .none S.r 0 ++ [.lst (List.replicate ((c : Nat) : Int).toNat [D.none]).flatten])
    (tr3 := fitM2 ((List.range S.r).map fun i => .int (S.pv i : Nat)) ((List.range S.r).map fun i => vecD m (S.e i)) ((List.range S.r).map fun i => frq (S.nm i)) ((List.range S.r).map fun i => vecD i (S.sh i)) ((List.range S.r).map fun i => frq (fac m w S.e S.nm y i)) (List.replicate c .none) S.r)
    (d := .ptr 9) G ?_ (by ktr_rel) rfl (by kernel_rfl!) (Nat.le_of_ble_eq_true rfl) (by kernel_rfl) ?_ ?_
  · refine Ev_mulListM (ds := [.none]) (k := (c : Nat)) (tr1 := fitM ((List.range S.r).map fun i => .int (S.pv i : Nat)) ((List.range S.r).map fun i => vecD m (S.e i)) ((List.range S.r).map fun i => frq (S.nm i)) ((List.range S.r).map fun i => vecD i (S.sh i)) ((List.range S.r).map fun i => frq (fac m w S.e S.nm y i)) [] [] [] .none S.r 0)
      (tr2 := fitM ((List.range S.r).map fun i => .int (S.pv i : Nat)) ((List.range S.r).map fun i => vecD m (S.e i)) ((List.range S.r).map fun i => frq (S.nm i)) ((List.range S.r).map fun i => vecD i (S.sh i)) ((List.range S.r).map fun i => frq (fac m w S.e S.nm y i)) [] [] [] .none S.r 0) ?_ ?_ (by omega) (by rw [hjn]; simp; omega) (by omega)
    · refine Ev_list ?_ (by decide)
      tb_rel
    · ktr_rel
  · rw [hjn, flat1]; rfl
  refine Ex_assign (tr1 := fitM2 ((List.range S.r).map fun i => .int (S.pv i : Nat)) ((List.range S.r).map fun i => vecD m (S.e i)) ((List.range S.r).map fun i => frq (S.nm i)) ((List.range S.r).map fun i => vecD i (S.sh i)) ((List.range S.r).map fun i => frq (fac m w S.e S.nm y i)) (List.replicate c .none) S.r) (d := vecD S.r (bcOut S.sh S.r (fac m w S.e S.nm y) S.r)) ?_ (by kernel_rfl) (by kernel_rfl) ?_
  · ktr_rel
  generalize hV : bcOut S.sh S.r (fac m w S.e S.nm y) S.r = V at hvs ⊢
  refine Ex_forR (tr1 := fitM2 ((List.range S.r).map fun i => .int (S.pv i : Nat)) ((List.range S.r).map fun i => vecD m (S.e i)) ((List.range S.r).map fun i => frq (S.nm i)) ((List.range S.r).map fun i => vecD i (S.sh i)) ((List.range S.r).map fun i => frq (fac m w S.e S.nm y i)) (List.replicate c .none) S.r) (N := S.r) ?_ (by omega)
    (fun _ => [("values", vecD S.r V), ("rest", vecD m (red m w S.e S.nm y S.r)), ("found", .inst a.Cl 4), ("columns", matD c m M), ("y", vecD m y), ("weights", wD m w)])
    (fun t => fitM2 ((List.range S.r).map fun i => .int (S.pv i : Nat)) ((List.range S.r).map fun i => vecD m (S.e i)) ((List.range S.r).map fun i => frq (S.nm i)) ((List.range S.r).map fun i => vecD i (S.sh i)) ((List.range S.r).map fun i => frq (fac m w S.e S.nm y i)) (coefs c S.pv V t) S.r) rfl (by kwd_less) (fun t ht => ?_) (by kernel_rfl) (fun _ => rfl) ?_
  · ktr_rel
  · have hp := hpv t ht
    have hl := coefs_len (c := c) (pv := S.pv) (V := V) t
    refine Ex_setitem (tr1 := fitM2 ((List.range S.r).map fun i => .int (S.pv i : Nat)) ((List.range S.r).map fun i => vecD m (S.e i)) ((List.range S.r).map fun i => frq (S.nm i)) ((List.range S.r).map fun i => vecD i (S.sh i)) ((List.range S.r).map fun i => frq (fac m w S.e S.nm y i)) (coefs c S.pv V t) S.r)
      (tr2 := fitM2 ((List.range S.r).map fun i => .int (S.pv i : Nat)) ((List.range S.r).map fun i => vecD m (S.e i)) ((List.range S.r).map fun i => frq (S.nm i)) ((List.range S.r).map fun i => vecD i (S.sh i)) ((List.range S.r).map fun i => frq (fac m w S.e S.nm y i)) (coefs c S.pv V t) S.r)
      (tr3 := fitM2 ((List.range S.r).map fun i => .int (S.pv i : Nat)) ((List.range S.r).map fun i => vecD m (S.e i)) ((List.range S.r).map fun i => frq (S.nm i)) ((List.range S.r).map fun i => vecD i (S.sh i)) ((List.range S.r).map fun i => frq (fac m w S.e S.nm y i)) (coefs c S.pv V t) S.r)
      (m := 9) (k := (S.pv t : Nat)) (ds := coefs c S.pv V t) (d := frq (V t)) (by ktr_rel) (by ktr_rel) (Ev_sub (by ktr_rel) (by ktr_rel) (idx_ptr (out := fun i => D.int (S.pv i : Nat)) rfl ht) (by omega) (fun _ _ => rfl)) rfl (by omega) (by omega) (by omega) (by kernel_rfl) rfl ?_
    exact Ex_of (Ex_end (Γ2 := [("values", vecD S.r V), ("rest", vecD m (red m w S.e S.nm y S.r)), ("found", .inst a.Cl 4), ("columns", matD c m M), ("y", vecD m y), ("weights", wD m w)]) (by kwd_less)) rfl
  generalize hco : coefs c S.pv V S.r = co
  generalize hrr : red m w S.e S.nm y S.r = rs at hrs ⊢
  generalize hff : fac m w S.e S.nm y = st
  kst_p2
  show Ex _ _ _ _ [.lst ((List.range S.r).map fun i => .int (S.pv i : Nat)), .lst ((List.range S.r).map fun i => vecD m (S.e i)), .lst ((List.range S.r).map fun i => frq (S.nm i)), .lst ((List.range S.r).map fun i => vecD i (S.sh i)),
      .dct [("pivots", .ptr 0), ("bases", .ptr 1), ("norms", .ptr 2), ("shares", .ptr 3), ("steps", .ptr 5), ("coefficients", .ptr 9), ("fitted", .ptr 7), ("residuals", vecD m rs), ("weights", .none), ("rank", .int S.r), ("df", .int 0)],
      .lst ((List.range S.r).map fun i => frq (st i)), .lst [], .lst [], .lst [], .lst co] _ _
  refine Ex_setattr (m := 4) (fs := [("pivots", .ptr 0), ("bases", .ptr 1), ("norms", .ptr 2), ("shares", .ptr 3), ("steps", .ptr 5), ("coefficients", .ptr 9), ("fitted", .ptr 7), ("residuals", vecD m rs), ("weights", .none), ("rank", .int S.r), ("df", .int 0)])
    (tr1 := [.lst ((List.range S.r).map fun i => .int (S.pv i : Nat)), .lst ((List.range S.r).map fun i => vecD m (S.e i)), .lst ((List.range S.r).map fun i => frq (S.nm i)), .lst ((List.range S.r).map fun i => vecD i (S.sh i)),
      .dct [("pivots", .ptr 0), ("bases", .ptr 1), ("norms", .ptr 2), ("shares", .ptr 3), ("steps", .ptr 5), ("coefficients", .ptr 9), ("fitted", .ptr 7), ("residuals", vecD m rs), ("weights", .none), ("rank", .int S.r), ("df", .int 0)],
      .lst ((List.range S.r).map fun i => frq (st i)), .lst [], .lst [], .lst [], .lst co])
    (tr2 := [.lst ((List.range S.r).map fun i => .int (S.pv i : Nat)), .lst ((List.range S.r).map fun i => vecD m (S.e i)), .lst ((List.range S.r).map fun i => frq (S.nm i)), .lst ((List.range S.r).map fun i => vecD i (S.sh i)),
      .dct [("pivots", .ptr 0), ("bases", .ptr 1), ("norms", .ptr 2), ("shares", .ptr 3), ("steps", .ptr 5), ("coefficients", .ptr 9), ("fitted", .ptr 7), ("residuals", vecD m rs), ("weights", .none), ("rank", .int S.r), ("df", .int 0)],
      .lst ((List.range S.r).map fun i => frq (st i)), .lst [], .lst [], .lst [], .lst co]) (d := vecD m (fun k => y k - rs k)) G ?_ (by ktr_rel) rfl (by kernel_rfl!) (Nat.le_of_ble_eq_true rfl) (by kernel_rfl) rfl ?_
  · refine Ev_of (Ev_compR (fun k => frq (y k - rs k)) (fun _ => _) [("rest", vecD m rs), ("y", vecD m y)] ?_ (show m ≤ 1000000 by omega) (by kernel_rfl) (by kwd_less) (fun k hk Lc => ?_) (fun _ => rfl)) rfl
    · ktr_rel
    · have h1 := hy k hk
      have h2 := hrs k hk
      ktr_rel
  refine Ex_of (Ex_ret_freeze_inst (Cl := a.Cl) (m := 4) (fs := [("pivots", (.lst ((List.range S.r).map fun i => .int (S.pv i : Nat)))), ("bases", (.lst ((List.range S.r).map fun i => vecD m (S.e i)))), ("norms", (.lst ((List.range S.r).map fun i => frq (S.nm i)))), ("shares", (.lst ((List.range S.r).map fun i => vecD i (S.sh i)))), ("steps", (.lst ((List.range S.r).map fun i => frq (st i)))), ("coefficients", (.lst (co))), ("fitted", vecD m (fun k => y k - rs k)), ("residuals", vecD m rs), ("weights", wD m w), ("rank", .int S.r), ("df", .int ((m : Int) - S.r))]) (tr1 := [.dead, .dead, .dead, .dead, .dct [("pivots", (.lst ((List.range S.r).map fun i => .int (S.pv i : Nat)))), ("bases", (.lst ((List.range S.r).map fun i => vecD m (S.e i)))), ("norms", (.lst ((List.range S.r).map fun i => frq (S.nm i)))), ("shares", (.lst ((List.range S.r).map fun i => vecD i (S.sh i)))), ("steps", (.lst ((List.range S.r).map fun i => frq (st i)))), ("coefficients", (.lst (co))), ("fitted", vecD m (fun k => y k - rs k)), ("residuals", vecD m rs), ("weights", wD m w), ("rank", .int S.r), ("df", .int ((m : Int) - S.r))], .dead, .lst [], .lst [], .lst [], .dead]) ?_ rfl) rfl
  refine Ex_of (Ex_ret_freeze_in (m := 9) (r := 4) (ds := co) (M := .dct [("pivots", (.lst ((List.range S.r).map fun i => .int (S.pv i : Nat)))), ("bases", (.lst ((List.range S.r).map fun i => vecD m (S.e i)))), ("norms", (.lst ((List.range S.r).map fun i => frq (S.nm i)))), ("shares", (.lst ((List.range S.r).map fun i => vecD i (S.sh i)))), ("steps", (.lst ((List.range S.r).map fun i => frq (st i)))), ("coefficients", .ptr 9), ("fitted", vecD m (fun k => y k - rs k)), ("residuals", vecD m rs), ("weights", wD m w), ("rank", .int S.r), ("df", .int ((m : Int) - S.r))]) (M' := .dct [("pivots", (.lst ((List.range S.r).map fun i => .int (S.pv i : Nat)))), ("bases", (.lst ((List.range S.r).map fun i => vecD m (S.e i)))), ("norms", (.lst ((List.range S.r).map fun i => frq (S.nm i)))), ("shares", (.lst ((List.range S.r).map fun i => vecD i (S.sh i)))), ("steps", (.lst ((List.range S.r).map fun i => frq (st i)))), ("coefficients", (.lst (co))), ("fitted", vecD m (fun k => y k - rs k)), ("residuals", vecD m rs), ("weights", wD m w), ("rank", .int S.r), ("df", .int ((m : Int) - S.r))]) (tr1 := [.dead, .dead, .dead, .dead, .dct [("pivots", (.lst ((List.range S.r).map fun i => .int (S.pv i : Nat)))), ("bases", (.lst ((List.range S.r).map fun i => vecD m (S.e i)))), ("norms", (.lst ((List.range S.r).map fun i => frq (S.nm i)))), ("shares", (.lst ((List.range S.r).map fun i => vecD i (S.sh i)))), ("steps", (.lst ((List.range S.r).map fun i => frq (st i)))), ("coefficients", .ptr 9), ("fitted", vecD m (fun k => y k - rs k)), ("residuals", vecD m rs), ("weights", wD m w), ("rank", .int S.r), ("df", .int ((m : Int) - S.r))], .dead, .lst [], .lst [], .lst [], .lst (co)]) (d := .inst a.Cl 4) ?_ rfl rfl (by decide) (.dct (.cons (.refl _) (.cons (.refl _) (.cons (.refl _) (.cons (.refl _) (.cons (.refl _) (.cons .ptr (FrzF.refl _ _ _))))))))) rfl
  refine Ex_of (Ex_ret_freeze_in (m := 5) (r := 4) (ds := (List.range S.r).map fun i => frq (st i)) (M := .dct [("pivots", (.lst ((List.range S.r).map fun i => .int (S.pv i : Nat)))), ("bases", (.lst ((List.range S.r).map fun i => vecD m (S.e i)))), ("norms", (.lst ((List.range S.r).map fun i => frq (S.nm i)))), ("shares", (.lst ((List.range S.r).map fun i => vecD i (S.sh i)))), ("steps", .ptr 5), ("coefficients", .ptr 9), ("fitted", vecD m (fun k => y k - rs k)), ("residuals", vecD m rs), ("weights", wD m w), ("rank", .int S.r), ("df", .int ((m : Int) - S.r))]) (M' := .dct [("pivots", (.lst ((List.range S.r).map fun i => .int (S.pv i : Nat)))), ("bases", (.lst ((List.range S.r).map fun i => vecD m (S.e i)))), ("norms", (.lst ((List.range S.r).map fun i => frq (S.nm i)))), ("shares", (.lst ((List.range S.r).map fun i => vecD i (S.sh i)))), ("steps", (.lst ((List.range S.r).map fun i => frq (st i)))), ("coefficients", .ptr 9), ("fitted", vecD m (fun k => y k - rs k)), ("residuals", vecD m rs), ("weights", wD m w), ("rank", .int S.r), ("df", .int ((m : Int) - S.r))]) (tr1 := [.dead, .dead, .dead, .dead, .dct [("pivots", (.lst ((List.range S.r).map fun i => .int (S.pv i : Nat)))), ("bases", (.lst ((List.range S.r).map fun i => vecD m (S.e i)))), ("norms", (.lst ((List.range S.r).map fun i => frq (S.nm i)))), ("shares", (.lst ((List.range S.r).map fun i => vecD i (S.sh i)))), ("steps", .ptr 5), ("coefficients", .ptr 9), ("fitted", vecD m (fun k => y k - rs k)), ("residuals", vecD m rs), ("weights", wD m w), ("rank", .int S.r), ("df", .int ((m : Int) - S.r))], .lst ((List.range S.r).map fun i => frq (st i)), .lst [], .lst [], .lst [], .lst (co)]) (d := .inst a.Cl 4) ?_ rfl rfl (by decide) (.dct (.cons (.refl _) (.cons (.refl _) (.cons (.refl _) (.cons (.refl _) (.cons .ptr (FrzF.refl _ _ _)))))))) rfl
  refine Ex_of (Ex_ret_freeze_in (m := 3) (r := 4) (ds := (List.range S.r).map fun i => vecD i (S.sh i)) (M := .dct [("pivots", (.lst ((List.range S.r).map fun i => .int (S.pv i : Nat)))), ("bases", (.lst ((List.range S.r).map fun i => vecD m (S.e i)))), ("norms", (.lst ((List.range S.r).map fun i => frq (S.nm i)))), ("shares", .ptr 3), ("steps", .ptr 5), ("coefficients", .ptr 9), ("fitted", vecD m (fun k => y k - rs k)), ("residuals", vecD m rs), ("weights", wD m w), ("rank", .int S.r), ("df", .int ((m : Int) - S.r))]) (M' := .dct [("pivots", (.lst ((List.range S.r).map fun i => .int (S.pv i : Nat)))), ("bases", (.lst ((List.range S.r).map fun i => vecD m (S.e i)))), ("norms", (.lst ((List.range S.r).map fun i => frq (S.nm i)))), ("shares", (.lst ((List.range S.r).map fun i => vecD i (S.sh i)))), ("steps", .ptr 5), ("coefficients", .ptr 9), ("fitted", vecD m (fun k => y k - rs k)), ("residuals", vecD m rs), ("weights", wD m w), ("rank", .int S.r), ("df", .int ((m : Int) - S.r))]) (tr1 := [.dead, .dead, .dead, .lst ((List.range S.r).map fun i => vecD i (S.sh i)), .dct [("pivots", (.lst ((List.range S.r).map fun i => .int (S.pv i : Nat)))), ("bases", (.lst ((List.range S.r).map fun i => vecD m (S.e i)))), ("norms", (.lst ((List.range S.r).map fun i => frq (S.nm i)))), ("shares", .ptr 3), ("steps", .ptr 5), ("coefficients", .ptr 9), ("fitted", vecD m (fun k => y k - rs k)), ("residuals", vecD m rs), ("weights", wD m w), ("rank", .int S.r), ("df", .int ((m : Int) - S.r))], .lst ((List.range S.r).map fun i => frq (st i)), .lst [], .lst [], .lst [], .lst (co)]) (d := .inst a.Cl 4) ?_ rfl rfl (by decide) (.dct (.cons (.refl _) (.cons (.refl _) (.cons (.refl _) (.cons .ptr (FrzF.refl _ _ _))))))) rfl
  refine Ex_of (Ex_ret_freeze_in (m := 2) (r := 4) (ds := (List.range S.r).map fun i => frq (S.nm i)) (M := .dct [("pivots", (.lst ((List.range S.r).map fun i => .int (S.pv i : Nat)))), ("bases", (.lst ((List.range S.r).map fun i => vecD m (S.e i)))), ("norms", .ptr 2), ("shares", .ptr 3), ("steps", .ptr 5), ("coefficients", .ptr 9), ("fitted", vecD m (fun k => y k - rs k)), ("residuals", vecD m rs), ("weights", wD m w), ("rank", .int S.r), ("df", .int ((m : Int) - S.r))]) (M' := .dct [("pivots", (.lst ((List.range S.r).map fun i => .int (S.pv i : Nat)))), ("bases", (.lst ((List.range S.r).map fun i => vecD m (S.e i)))), ("norms", (.lst ((List.range S.r).map fun i => frq (S.nm i)))), ("shares", .ptr 3), ("steps", .ptr 5), ("coefficients", .ptr 9), ("fitted", vecD m (fun k => y k - rs k)), ("residuals", vecD m rs), ("weights", wD m w), ("rank", .int S.r), ("df", .int ((m : Int) - S.r))]) (tr1 := [.dead, .dead, .lst ((List.range S.r).map fun i => frq (S.nm i)), .lst ((List.range S.r).map fun i => vecD i (S.sh i)), .dct [("pivots", (.lst ((List.range S.r).map fun i => .int (S.pv i : Nat)))), ("bases", (.lst ((List.range S.r).map fun i => vecD m (S.e i)))), ("norms", .ptr 2), ("shares", .ptr 3), ("steps", .ptr 5), ("coefficients", .ptr 9), ("fitted", vecD m (fun k => y k - rs k)), ("residuals", vecD m rs), ("weights", wD m w), ("rank", .int S.r), ("df", .int ((m : Int) - S.r))], .lst ((List.range S.r).map fun i => frq (st i)), .lst [], .lst [], .lst [], .lst (co)]) (d := .inst a.Cl 4) ?_ rfl rfl (by decide) (.dct (.cons (.refl _) (.cons (.refl _) (.cons .ptr (FrzF.refl _ _ _)))))) rfl
  refine Ex_of (Ex_ret_freeze_in (m := 1) (r := 4) (ds := (List.range S.r).map fun i => vecD m (S.e i)) (M := .dct [("pivots", (.lst ((List.range S.r).map fun i => .int (S.pv i : Nat)))), ("bases", .ptr 1), ("norms", .ptr 2), ("shares", .ptr 3), ("steps", .ptr 5), ("coefficients", .ptr 9), ("fitted", vecD m (fun k => y k - rs k)), ("residuals", vecD m rs), ("weights", wD m w), ("rank", .int S.r), ("df", .int ((m : Int) - S.r))]) (M' := .dct [("pivots", (.lst ((List.range S.r).map fun i => .int (S.pv i : Nat)))), ("bases", (.lst ((List.range S.r).map fun i => vecD m (S.e i)))), ("norms", .ptr 2), ("shares", .ptr 3), ("steps", .ptr 5), ("coefficients", .ptr 9), ("fitted", vecD m (fun k => y k - rs k)), ("residuals", vecD m rs), ("weights", wD m w), ("rank", .int S.r), ("df", .int ((m : Int) - S.r))]) (tr1 := [.dead, .lst ((List.range S.r).map fun i => vecD m (S.e i)), .lst ((List.range S.r).map fun i => frq (S.nm i)), .lst ((List.range S.r).map fun i => vecD i (S.sh i)), .dct [("pivots", (.lst ((List.range S.r).map fun i => .int (S.pv i : Nat)))), ("bases", .ptr 1), ("norms", .ptr 2), ("shares", .ptr 3), ("steps", .ptr 5), ("coefficients", .ptr 9), ("fitted", vecD m (fun k => y k - rs k)), ("residuals", vecD m rs), ("weights", wD m w), ("rank", .int S.r), ("df", .int ((m : Int) - S.r))], .lst ((List.range S.r).map fun i => frq (st i)), .lst [], .lst [], .lst [], .lst (co)]) (d := .inst a.Cl 4) ?_ rfl rfl (by decide) (.dct (.cons (.refl _) (.cons .ptr (FrzF.refl _ _ _))))) rfl
  refine Ex_of (Ex_ret_freeze_in (m := 0) (r := 4) (ds := (List.range S.r).map fun i => .int (S.pv i : Nat)) (M := .dct [("pivots", .ptr 0), ("bases", .ptr 1), ("norms", .ptr 2), ("shares", .ptr 3), ("steps", .ptr 5), ("coefficients", .ptr 9), ("fitted", vecD m (fun k => y k - rs k)), ("residuals", vecD m rs), ("weights", wD m w), ("rank", .int S.r), ("df", .int ((m : Int) - S.r))]) (M' := .dct [("pivots", (.lst ((List.range S.r).map fun i => .int (S.pv i : Nat)))), ("bases", .ptr 1), ("norms", .ptr 2), ("shares", .ptr 3), ("steps", .ptr 5), ("coefficients", .ptr 9), ("fitted", vecD m (fun k => y k - rs k)), ("residuals", vecD m rs), ("weights", wD m w), ("rank", .int S.r), ("df", .int ((m : Int) - S.r))]) (tr1 := [.lst ((List.range S.r).map fun i => .int (S.pv i : Nat)), .lst ((List.range S.r).map fun i => vecD m (S.e i)), .lst ((List.range S.r).map fun i => frq (S.nm i)), .lst ((List.range S.r).map fun i => vecD i (S.sh i)), .dct [("pivots", .ptr 0), ("bases", .ptr 1), ("norms", .ptr 2), ("shares", .ptr 3), ("steps", .ptr 5), ("coefficients", .ptr 9), ("fitted", vecD m (fun k => y k - rs k)), ("residuals", vecD m rs), ("weights", wD m w), ("rank", .int S.r), ("df", .int ((m : Int) - S.r))], .lst ((List.range S.r).map fun i => frq (st i)), .lst [], .lst [], .lst [], .lst (co)]) (d := .inst a.Cl 4) ?_ rfl rfl (by decide) (.dct (.cons .ptr (FrzF.refl _ _ _)))) rfl
  kst_p2
  kst_p2
  kst_p2
end


local macro_rules | `(tactic| kwd_inv) => `(tactic| first
  | ((with_reducible refine' Fn.mono (fit_spec ?g ?m ?c ?w ?u ?v ?z) ?l); (case g => assumption); (case m => assumption); (case c => assumption); (case w => assumption); (case u => assumption); (case v => assumption); (case z => assumption); (case l => decide))
  | fail "no")

section
variable {C : Cx} {a : Addrs} {tr tr1 tr2 tr3 tr4 : List MObj} {n : Nat} {env : Env} {Γ Γ1 : List (Str × D)} {rest : List Stmt} {o : Out}
/-- a name's list becomes immutable -/
theorem Ex_freezeΓ {ss : List Stmt} {x : Str} {m : Nat} {ds : List D} (hx : Γ.lookup x = some (.ptr m)) (hm : tr[m]? = some (.lst ds)) (h : Ex C n env ((x, .lst ds) :: Γ) (tr.set m .dead) ss o) : Ex C n env Γ tr ss o := fun A g as s L w F => by
  have hlt : m < as.length := by rw [w.len]; exact (List.getElem?_eq_some_iff.mp hm).1
  obtain ⟨a, ha⟩ : ∃ a, as[m]? = some a := ⟨_, List.getElem?_eq_getElem hlt⟩
  obtain ⟨g2, w2, G2, S, a2, hn⟩ := w.freeze (Grow.refl (wrOf env) g as s) hm a ha
  have F2 := F.sub S fun b o e n => hn b o e n ▸ List.mem_of_getElem? ha
  have F3 : Fm env g2 as ((x, .lst ds) :: Γ) s.heap := by
    have old : ∀ {v : Value}, At g2 as v (.ptr m) → At g2 as v (.lst ds) := fun h => by
      cases h with
      | ptr h => rw [ha] at h; cases h; exact a2
    obtain ⟨mm, hns, hmm⟩ := F2.ns
    refine ⟨F2.kind, F2.glob, F2.blt, ⟨mm, hns, fun y d hy hk => ?_⟩, F2.lfree, F2.cfree, fun y d hy hk => ?_, F2.apart⟩
    · rw [List.lookup_cons] at hy
      cases hyx : y == x with
      | true =>
        rw [hyx] at hy; cases hy
        rw [beq_iff_eq.mp hyx] at hk ⊢
        obtain ⟨v, hv, av⟩ := hmm x _ hx hk
        exact ⟨v, hv, old av⟩
      | false => rw [hyx] at hy; exact hmm y d hy hk
    · rw [List.lookup_cons] at hy
      cases hyx : y == x with
      | true =>
        rw [hyx] at hy; cases hy
        rw [beq_iff_eq.mp hyx] at hk ⊢
        obtain ⟨c, v, hc, hv, av⟩ := F2.cell x _ hx hk
        exact ⟨c, v, hc, hv, old av⟩
      | false => rw [hyx] at hy; exact F2.cell y d hy hk
  exact wpAny_mono (h A g2 as s L w2 F3) (fun f s2 p => p.step G2) fun _ _ h => h
theorem rep_map {x : D} {r : Nat} : List.replicate r x = (List.range r).map fun _ => x := by
  rw [List.map_const']; simp
theorem Ev_rep {e r : Expr} {pos p2 : Pos} {d : D} {m : Nat} (hm : m ≤ 1000) (hl : Evs C n env Γ tr p2 [e] tr [d]) (hr : Ev C n env Γ tr r tr (.int m)) : Ev C n env Γ tr (.BinOp (.List [e] p2) .Mult r pos) tr (.lst ((List.range m).map fun _ => d)) := by
  refine Ev_of (Ev_bin (tr1 := tr) (d1 := .lst [d]) (d2 := .int m) (Ev_list hl (by show 1 ≤ 1000; omega)) hr (Op_mulList (ds := [d]) (k := (m : Nat)) (by omega) (by show 1 * m ≤ 1000; omega) (by omega))) ?_
  show D.lst (List.replicate m [d]).flatten = _
  rw [flat1, rep_map]
theorem Ev_repM {e r : Expr} {pos p2 : Pos} {d : D} {m : Nat} (hm : m ≤ 1000) (hl : Evs C n env Γ tr p2 [e] tr [d]) (hr : Ev C n env Γ tr r tr (.int m)) : Ev C n env Γ tr (.BinOp (.List [e] p2) .Mult r pos) (tr ++ [.lst ((List.range m).map fun _ => d)]) (.ptr tr.length) := by
  have := Ev_mulListM (pos := pos) (ds := [d]) (k := (m : Nat)) (Ev_list (pos := p2) hl (by show 1 ≤ 1000; omega)) hr (by omega) (by show 1 * m ≤ 1000; omega) (by omega)
  rw [show (List.replicate ((m : Nat) : Int).toNat [d]).flatten = (List.range m).map fun _ => d by show (List.replicate m [d]).flatten = _; rw [flat1, rep_map]] at this
  exact this
theorem frq_int (i : Int) : frq (i : Rat) = .tup [.int i, .int 1] := rfl
end
section
variable {C : Cx} {a : Addrs} {tr : List MObj} {n : Nat}
theorem rss_spec (G : Glob C a) {m : Nat} {w : Option (Nat → Rat)} {S : GS} {co : List D} {st fi rs : Nat → Rat} (hm : m ≤ 4) (hw : Wsz 2 m w) (hrs : Vsz 26757 m rs) :
    Fn C 5 (.ref a.f_rss) tr [fitD a.Cl m w S co st fi rs] tr (frq (dt m (wt w rs) rs)) := by
  refine Fn_ofΓ (Γ := [("found", fitD a.Cl m w S co st fi rs)]) G.d_rss rfl rfl fun qual L code => ?_
  conv in (fbody _) => whnf
  unfold fitD
  have h1 := hw.wt hrs
  kst_p2

def hp (w : Option (Nat → Rat)) (S : GS) (i k : Nat) : Nat → Rat := fun j => ps (fun t => S.e t i / S.nm t * wt w (S.e t) j) k
theorem hp_size {m : Nat} {w : Option (Nat → Rat)} {S : GS} (hm : m ≤ 4) (hw : Wsz 2 m w) (H : GsOk m S) (hr : S.r ≤ 3) {i : Nat} (hi : i < m) {k : Nat} (hk : k ≤ S.r) : Vsz 45000 m (hp w S i k) := by
  intro j hj
  refine (ps_size (b := 14865) (m := S.r) (fun t ht => ?_) k hk).le (by omega)
  have h1 := H.e t ht
  have b1 := sB2 (t := t) (by omega)
  have b2 : nB t = 8 * sB t + 13 := rfl
  exact (((h1 i hi).div (H.nm t ht)).mul (hw.wt h1 j hj)).le (by omega)

theorem hat_rows_spec0 (G : Glob C a) {m : Nat} {w : Option (Nat → Rat)} {S : GS} {co : List D} {st fi rs : Nat → Rat} (hm : m ≤ 4) (hw : Wsz 2 m w) (H : GsOk m S) (hr : S.r ≤ 3) :
    Fn C 6 (.ref a.f_hat_rows) [] [fitD a.Cl m w S co st fi rs, .int m] [] (matD m m fun i => hp w S i S.r) := by
  refine Fn_drop0 (tr := []) (ex := [.dead]) ?_ lim_mat
  refine Fn_ofΓ (Γ := [("found", fitD a.Cl m w S co st fi rs), ("count", .int m)]) G.d_hat_rows rfl rfl fun qual L code => ?_
  conv in (fbody _) => whnf
  unfold fitD
  have hm' : m ≤ 1000 := by omega
  have hr' : S.r ≤ 1000 := by omega
  refine Ex_of (Ex_ret_freeze (m := 0) (ds := (List.range m).map fun i => vecD m (hp w S i S.r)) (tr1 := [.lst ((List.range m).map fun i => vecD m (hp w S i S.r))]) ?_ rfl) rfl
  kst_p2
  generalize hF : D.obj a.Cl _ = F
  show Ex C 5 _ [("rows", .ptr 0), ("found", F), ("count", .int m)] [.lst []] _ _
  refine Ex_forR (tr1 := [.lst []]) (N := m) ?_ (by omega) (fun i => [("rows", .ptr 0), ("found", F), ("count", .int m)]) (fun i => [.lst ((List.range i).map fun i => vecD m (hp w S i S.r))]) rfl (by kwd_less) (fun i hi => ?_) (by kernel_rfl) (fun _ => rfl) ?_
  · ktr_rel
  · refine Ex_assign (tr1 := [.lst ((List.range i).map fun i => vecD m (hp w S i S.r))]) (d := vecD m (hp w S i 0)) ?_ (by kernel_rfl) (by kernel_rfl) ?_
    · exact Ev_of (Ev_rep (d := frq 0) hm' (by tb_rel) (by ktr_rel)) rfl
    refine Ex_forR (tr1 := [.lst ((List.range i).map fun i => vecD m (hp w S i S.r))]) (N := S.r) ?_ (by omega) (fun k => [("row", vecD m (hp w S i k)), ("i", .int i), ("rows", .ptr 0), ("found", F), ("count", .int m)]) (fun _ => [.lst ((List.range i).map fun i => vecD m (hp w S i S.r))]) rfl (by kwd_less) (fun k hk => ?_) (by kernel_rfl) (fun _ => rfl) ?_
    · subst hF; ktr_rel
    · have h1 := H.e k hk
      have h2 := h1 i hi
      have h3 := H.nm k hk
      have h4 := H.nz k hk
      have h5 := hw.wt h1
      have h6 := hp_size hm hw H hr hi (k := k) (by omega)
      have b1 := sB2 (t := k) (by omega)
      have b2 : nB k = 8 * sB k + 13 := rfl
      refine Ex_assign (tr1 := [.lst ((List.range i).map fun i => vecD m (hp w S i S.r))]) (d := vecD m (S.e k)) (by subst hF; ktr_rel) (by kernel_rfl) (by kernel_rfl) ?_
      by_cases hz : (S.e k i).num = 0
      · refine Ex_if_skip (tr1 := [.lst ((List.range i).map fun i => vecD m (hp w S i S.r))]) (by kst_p) ?_
        have e1 : hp w S i (k + 1) = hp w S i k := by
          funext j
          show ps _ k + S.e k i / S.nm k * wt w (S.e k) j = ps _ k
          rw [Rat.num_eq_zero.mp hz, Rat.div_def, Rat.zero_mul, Rat.zero_mul, Rat.add_zero]
        rw [e1]
        exact Ex_end (by kwd_less)
      · refine Ex_if_next (Γ1 := [("row", vecD m (hp w S i (k + 1))), ("i", .int i), ("rows", .ptr 0), ("found", F), ("count", .int m)]) (tr1 := [.lst ((List.range i).map fun i => vecD m (hp w S i S.r))]) (tr2 := [.lst ((List.range i).map fun i => vecD m (hp w S i S.r))]) (by kst_p) ?_ (Ex_end (by kwd_less))
        refine Ex_assign (tr1 := [.lst ((List.range i).map fun i => vecD m (hp w S i S.r))]) (d := frq (S.e k i / S.nm k)) (by subst hF; ktr_rel) (by kernel_rfl) (by kernel_rfl) ?_
        refine Ex_assign (tr1 := [.lst ((List.range i).map fun i => vecD m (hp w S i S.r))]) (d := vecD m (wt w (S.e k))) (by subst hF; ktr_rel) (by kernel_rfl) (by kernel_rfl) ?_
        refine Ex_assign (tr1 := [.lst ((List.range i).map fun i => vecD m (hp w S i S.r))]) (d := vecD m (hp w S i (k + 1))) ?_ (by kernel_rfl) (by kernel_rfl) (Ex_end (by kwd_less))
        refine Ev_of (Ev_compR (fun j => frq (hp w S i k j + S.e k i / S.nm k * wt w (S.e k) j)) (fun _ => _) [("row", vecD m (hp w S i k)), ("factor", frq (S.e k i / S.nm k)), ("part", vecD m (wt w (S.e k)))] ?_ (show m ≤ 1000000 by omega) (by kernel_rfl) (by kwd_less) (fun j hj Lc => ?_) (fun _ => rfl)) rfl
        · ktr_rel
        · have g1 := h5 j hj
          have g2 := h6 j hj
          have g3 := h2.div h3
          ktr_rel
    · kst_p2
      refine Ex_of (Ex_end (Γ2 := [("rows", .ptr 0), ("found", F), ("count", .int m)]) (by kwd_less)) ?_
      show Out.next _ [.lst ((List.range i).map (fun i => vecD m (hp w S i S.r)) ++ [vecD m (hp w S i S.r)])] = _
      rw [snocR (out := fun i => vecD m (hp w S i S.r))]
  · kst_p2
theorem lims0 {l : List D} : (∀ d ∈ l, d.lim 0 = true) → D.lims 0 l = true := lims_iff.mpr
theorem hat_rows_spec (G : Glob C a) {m : Nat} {w : Option (Nat → Rat)} {S : GS} {co : List D} {st fi rs : Nat → Rat} (hm : m ≤ 4) (hw : Wsz 2 m w) (H : GsOk m S) (hr : S.r ≤ 3) (hco : D.lims 0 co = true) :
    Fn C 6 (.ref a.f_hat_rows) tr [fitD a.Cl m w S co st fi rs, .int m] tr (matD m m fun i => hp w S i S.r) :=
  Fn_frame (hat_rows_spec0 G hm hw H hr) (by show (D.lim _ _ && _) = true; rw [lim_fitD hco]; rfl)

def lvp (S : GS) (i k : Nat) : Rat := ps (fun t => S.e t i * S.e t i / S.nm t) k
theorem lvp_size {m : Nat} {S : GS} (H : GsOk m S) (hr : S.r ≤ 3) {i : Nat} (hi : i < m) {k : Nat} (hk : k ≤ S.r) : Sz 45000 (lvp S i k) := by
  refine (ps_size (b := 14863) (m := S.r) (fun t ht => ?_) k hk).le (by omega)
  have h1 := H.e t ht i hi
  have b1 := sB2 (t := t) (by omega)
  have b2 : nB t = 8 * sB t + 13 := rfl
  exact ((h1.mul h1).div (H.nm t ht)).le (by omega)
theorem leverages_spec0 (G : Glob C a) {m : Nat} {w : Option (Nat → Rat)} {S : GS} {co : List D} {st fi rs : Nat → Rat} (hm : m ≤ 4) (hw : Wsz 2 m w) (H : GsOk m S) (hr : S.r ≤ 3) :
    Fn C 6 (.ref a.f_leverages) [] [fitD a.Cl m w S co st fi rs, .int m] [] (vecD m (wt w fun i => lvp S i S.r)) := by
  refine Fn_drop0 (tr := []) (ex := [.dead]) ?_ lim_vec
  refine Fn_ofΓ (Γ := [("found", fitD a.Cl m w S co st fi rs), ("count", .int m)]) G.d_leverages rfl rfl fun qual L code => ?_
  conv in (fbody _) => whnf
  unfold fitD
  have hm' : m ≤ 1000 := by omega
  have hr' : S.r ≤ 1000 := by omega
  kst_p2
  generalize hF : D.obj a.Cl _ = F
  show Ex C 5 _ [("values", .ptr 0), ("found", F), ("count", .int m)] [.lst []] _ _
  refine Ex_forR (tr1 := [.lst []]) (N := m) ?_ (by omega) (fun i => [("values", .ptr 0), ("found", F), ("count", .int m)]) (fun i => [.lst ((List.range i).map fun i => frq (lvp S i S.r))]) rfl (by kwd_less) (fun i hi => ?_) (by kernel_rfl) (fun _ => rfl) ?_
  · ktr_rel
  · refine Ex_assign (tr1 := [.lst ((List.range i).map fun i => frq (lvp S i S.r))]) (d := frq (lvp S i 0)) (by show Ev _ _ _ _ _ _ _ (frq 0); ktr_rel) (by kernel_rfl) (by kernel_rfl) ?_
    refine Ex_forR (tr1 := [.lst ((List.range i).map fun i => frq (lvp S i S.r))]) (N := S.r) ?_ (by omega) (fun k => [("total", frq (lvp S i k)), ("i", .int i), ("values", .ptr 0), ("found", F), ("count", .int m)]) (fun _ => [.lst ((List.range i).map fun i => frq (lvp S i S.r))]) rfl (by kwd_less) (fun k hk => ?_) (by kernel_rfl) (fun _ => rfl) ?_
    · subst hF; ktr_rel
    · have h1 := H.e k hk
      have h2 := h1 i hi
      have h3 := H.nm k hk
      have h4 := H.nz k hk
      have h6 := lvp_size H hr hi (k := k) (by omega)
      have b1 := sB2 (t := k) (by omega)
      have b2 : nB k = 8 * sB k + 13 := rfl
      refine Ex_assign (tr1 := [.lst ((List.range i).map fun i => frq (lvp S i S.r))]) (d := vecD m (S.e k)) (by subst hF; ktr_rel) (by kernel_rfl) (by kernel_rfl) ?_
      refine Ex_assign (tr1 := [.lst ((List.range i).map fun i => frq (lvp S i S.r))]) (d := frq (lvp S i (k + 1))) ?_ (by kernel_rfl) (by kernel_rfl) (Ex_end (by kwd_less))
      show Ev _ _ _ _ _ _ _ (frq (lvp S i k + S.e k i * S.e k i / S.nm k))
      subst hF; ktr_rel
    · kst_p2
      refine Ex_of (Ex_end (Γ2 := [("values", .ptr 0), ("found", F), ("count", .int m)]) (by kwd_less)) ?_
      show Out.next _ [.lst ((List.range i).map (fun i => frq (lvp S i S.r)) ++ [frq (lvp S i S.r)])] = _
      rw [snocR (out := fun i => frq (lvp S i S.r))]
  · refine Ex_freezeΓ (x := "values") (m := 0) (ds := (List.range m).map fun i => frq (lvp S i S.r)) rfl rfl ?_
    show Ex _ _ _ [("values", vecD m (fun i => lvp S i S.r)), ("values", .ptr 0), ("found", F), ("count", .int m)] [.dead] _ _
    have h6 : Vsz 45000 m (fun i => lvp S i S.r) := fun i hi => lvp_size H hr hi (Nat.le_refl _)
    subst hF
    kst_p2
theorem leverages_spec (G : Glob C a) {m : Nat} {w : Option (Nat → Rat)} {S : GS} {co : List D} {st fi rs : Nat → Rat} (hm : m ≤ 4) (hw : Wsz 2 m w) (H : GsOk m S) (hr : S.r ≤ 3) (hco : D.lims 0 co = true) :
    Fn C 6 (.ref a.f_leverages) tr [fitD a.Cl m w S co st fi rs, .int m] tr (vecD m (wt w fun i => lvp S i S.r)) :=
  Fn_frame (leverages_spec0 G hm hw H hr) (by show (D.lim _ _ && _) = true; rw [lim_fitD hco]; rfl)
end


local macro_rules | `(tactic| kwd_inv) => `(tactic| first
  | ((with_reducible refine' Fn.mono (rss_spec ?g ?m ?w ?z) ?l); (case g => assumption); (case m => assumption); (case w => assumption); (case z => assumption); (case l => decide))
  | fail "no")

section
variable {C : Cx} {a : Addrs} {tr : List MObj} {n : Nat}
/-! the inverse of the shares -/
def up2 (V : Nat → Nat → Rat) (i j : Nat) (x : Rat) : Nat → Nat → Rat := fun p q => if p = i ∧ q = j then x else V p q
def invIn (sh : Nat → Nat → Rat) (j : Nat) (V : Nat → Nat → Rat) : Nat → Nat → Nat → Rat
  | 0 => V
  | s + 1 => up2 (invIn sh j V s) (j - 1 - s) j (0 - ps (fun t => sh (j - 1 - s + 1 + t) (j - 1 - s) * invIn sh j V s (j - 1 - s + 1 + t) j) (j + 1 - (j - 1 - s + 1)))
def unit2 : Nat → Nat → Rat := fun p q => if p = q then 1 else 0
def invOut (sh : Nat → Nat → Rat) : Nat → Nat → Nat → Rat
  | 0 => unit2
  | j + 1 => invIn sh j (invOut sh j) j
def rowsP (r i : Nat) (V : Nat → Nat → Rat) : List MObj := .lst ((List.range i).map fun p => .ptr (p + 1)) :: (List.range i).map fun p => .lst ((List.range r).map fun q => frq (V p q))
theorem rowsP_len {r i : Nat} {V : Nat → Nat → Rat} : (rowsP r i V).length = i + 1 := by simp [rowsP]
theorem rowsP_get {r i k : Nat} {V : Nat → Nat → Rat} (h : k < i) : (rowsP r i V)[k + 1]? = some (.lst ((List.range r).map fun q => frq (V k q))) := by
  simp [rowsP, h]
theorem rowsP_set {r i k j : Nat} {V : Nat → Nat → Rat} {x : Rat} (h : k < i) : (rowsP r i V).set (k + 1) (.lst (((List.range r).map fun q => frq (V k q)).set j (frq x))) = rowsP r i (up2 V k j x) := by
  unfold rowsP
  rw [List.set_cons_succ]
  congr 1
  apply List.ext_getElem?
  intro p
  rw [List.getElem?_set]
  by_cases hp : p < i
  · by_cases hk : k = p
    · subst hk
      simp only [if_true, List.length_map, List.length_range, hp, List.getElem?_map, List.getElem?_range hp, Option.map_some]
      rw [setU frq]
      congr 2
      apply List.map_congr_left
      intro q _
      simp [up2, upN]
    · have hk' : ¬ p = k := fun e => hk e.symm
      simp only [hk, if_false, List.getElem?_map, List.getElem?_range hp, Option.map_some]
      congr 2
      apply List.map_congr_left
      intro q _
      simp [up2, hk']
  · rw [if_neg (by omega), List.getElem?_eq_none (by simp; omega), List.getElem?_eq_none (by simp; omega)]
theorem idx_rows {r i k : Nat} {V : Nat → Nat → Rat} (h : k < i) : idx (rowsP r i V) (.ptr 0) (k : Int) = some (.ptr (k + 1)) := idx_ptr (tr := rowsP r i V) (out := fun p => .ptr (p + 1)) rfl h
theorem idx_row {r i k j : Nat} {V : Nat → Nat → Rat} (h : k < i) (hj : j < r) : idx (rowsP r i V) (.ptr (k + 1)) (j : Int) = some (frq (V k j)) := idx_ptr (tr := rowsP r i V) (rowsP_get h) hj

/-! sizes -/
def iB : Nat → Nat
  | 0 => 2
  | s + 1 => 2 * iB s + 47600
theorem iB_le (s : Nat) : iB s ≤ iB (s + 1) := by show _ ≤ 2 * iB s + 47600; omega
theorem iB3 {s : Nat} (h : s ≤ 3) : iB s ≤ 340000 := by
  match s, h with
  | 0, _ => decide
  | 1, _ => decide
  | 2, _ => decide
  | 3, _ => decide
theorem invIn_size {sh : Nat → Nat → Rat} {r j : Nat} {V : Nat → Nat → Rat} {s0 : Nat} (hj : j < r) (hr : r ≤ 3) (hsh : ∀ i, i < r → ∀ t, t < i → Sz 23786 (sh i t)) (hV : ∀ p q, Sz (iB s0) (V p q)) : ∀ s, s ≤ j → ∀ p q, Sz (iB (s0 + s)) (invIn sh j V s p q)
  | 0, _ => hV
  | s + 1, hs => by
    have h1 := invIn_size hj hr hsh hV s (by omega)
    intro p q
    show Sz (iB (s0 + s + 1)) _
    simp only [invIn, up2]
    split
    · have h2 := ps_size (f := fun t => sh (j - 1 - s + 1 + t) (j - 1 - s) * invIn sh j V s (j - 1 - s + 1 + t) j) (b := 23786 + iB (s0 + s)) (m := j + 1 - (j - 1 - s + 1)) (fun t ht => (hsh (j - 1 - s + 1 + t) (by omega) (j - 1 - s) (by omega)).mul (h1 _ _)) _ (Nat.le_refl _)
      have h3 : (j + 1 - (j - 1 - s + 1)) * (23786 + iB (s0 + s) + 1) ≤ 2 * (23786 + iB (s0 + s) + 1) := Nat.mul_le_mul_right _ (by omega)
      refine ((Sz.zero (b := 1) (by decide)).sub h2).le ?_
      show _ ≤ 2 * iB (s0 + s) + 47600
      omega
    · exact (h1 p q).le (iB_le _)
theorem Sz.one {b : Nat} (h : 2 ≤ b) : Sz b 1 := by
  have : 1 < 2 ^ b := Nat.one_lt_two_pow (by omega)
  exact ⟨this, this⟩
theorem invOut_size {sh : Nat → Nat → Rat} {r : Nat} (hr : r ≤ 3) (hsh : ∀ i, i < r → ∀ t, t < i → Sz 23786 (sh i t)) : ∀ j, j ≤ r → ∀ p q, Sz (iB (tri j)) (invOut sh j p q)
  | 0, _ => fun p q => by
    simp only [invOut, unit2]
    split
    · exact Sz.one (by decide)
    · exact Sz.zero (by decide)
  | j + 1, hj => fun p q => invIn_size (by omega) hr hsh (invOut_size hr hsh j (by omega)) j (Nat.le_refl _) p q
def rowsF (r k : Nat) (V : Nat → Nat → Rat) : List MObj := .lst ((List.range r).map fun p => if p < k then vecD r (V p) else .ptr (p + 1)) :: (List.range r).map fun p => if p < k then MObj.dead else .lst ((List.range r).map fun q => frq (V p q))
theorem frzs_map {m : Nat} {x : D} {f g : Nat → D} : ∀ (l : List Nat), (∀ p ∈ l, Frz m x (f p) (g p)) → Frzs m x (l.map f) (l.map g)
  | [], _ => .nil
  | p :: l, h => .cons (h p (.head _)) (frzs_map l fun q hq => h q (.tail _ hq))
theorem Ex_rowsF {env : Env} {Γ : List (Str × D)} {ss : List Stmt} {d : D} {r : Nat} {V : Nat → Nat → Rat} (h : Ex C n env Γ tr ss (.ret (rowsP r r V) d)) : ∀ k, k ≤ r → Ex C n env Γ tr ss (.ret (rowsF r k V) d)
  | 0, _ => h
  | k + 1, hk => by
    have ih := Ex_rowsF h k (by omega)
    refine Ex_of (Ex_ret_freeze_in (m := k + 1) (r := 0) (ds := (List.range r).map fun q => frq (V k q)) (M' := .lst ((List.range r).map fun p => if p < k + 1 then vecD r (V p) else .ptr (p + 1))) ih ?_ rfl (by omega) (.lst (frzs_map _ fun p hp => ?_))) ?_
    · have : k < r := by omega
      simp [rowsF, this]
    · by_cases h1 : p < k
      · rw [if_pos h1, if_pos (by omega)]; exact .refl _
      · by_cases h2 : p = k
        · subst h2; rw [if_neg h1, if_pos (by omega)]; exact .ptr
        · rw [if_neg h1, if_neg (by omega)]; exact .refl _
    · congr 1
      unfold rowsF
      rw [List.set_cons_succ, List.set_cons_zero]
      congr 1
      apply List.ext_getElem?
      intro p
      rw [List.getElem?_set]
      by_cases hp : p < r
      · by_cases hkp : k = p
        · subst hkp; simp [hp]
        · have h3 : ¬ p = k := fun e => hkp e.symm
          simp only [hkp, if_false, List.getElem?_map, List.getElem?_range hp, Option.map_some]
          by_cases h4 : p < k
          · rw [if_pos h4, if_pos (by omega)]
          · rw [if_neg h4, if_neg (by omega)]
      · rw [List.getElem?_eq_none (by simp; omega), List.getElem?_eq_none (by simp; omega)]
        split
        · rename_i e; subst e; rw [if_neg (by simp; omega)]
        · rfl
theorem rowsF_all {r : Nat} {V : Nat → Nat → Rat} : rowsF r r V = .lst ((List.range r).map fun p => vecD r (V p)) :: (List.range r).map fun _ => .dead := by
  unfold rowsF
  congr 1
  · congr 1
    apply List.map_congr_left
    intro p hp
    rw [if_pos (List.mem_range.mp hp)]
  · apply List.map_congr_left
    intro p hp
    rw [if_pos (List.mem_range.mp hp)]
end
local macro_rules | `(tactic| ktr_room) => `(tactic| first
  | ((with_reducible refine' idx_map ?h); (case h => first | assumption | omega))
  | ((with_reducible refine' idx_row ?h ?k); (case h => first | assumption | omega); (case k => first | assumption | omega))
  | ((with_reducible refine' idx_rows ?h); (case h => first | assumption | omega))
  | fail "no")
section
variable {C : Cx} {a : Addrs} {tr : List MObj} {n : Nat}
theorem inverse_spec0 (G : Glob C a) {m : Nat} {w : Option (Nat → Rat)} {S : GS} {co : List D} {st fi rs : Nat → Rat} (hr : S.r ≤ 3) (hsh : ∀ i, i < S.r → ∀ t, t < i → Sz 23786 (S.sh i t)) :
    Fn C 6 (.ref a.f_inverse_shares) [] [fitD a.Cl m w S co st fi rs] [] (matD S.r S.r (invOut S.sh S.r)) := by
  refine Fn_drop0 (tr := []) (ex := .dead :: (List.range S.r).map fun _ => .dead) ?_ lim_mat
  refine Fn_ofΓ (Γ := [("found", fitD a.Cl m w S co st fi rs)]) G.d_inverse_shares rfl rfl fun qual L code => ?_
  conv in (fbody _) => whnf
  have hr' : S.r ≤ 1000 := by omega
  refine Ex_of (Ex_ret_freeze (m := 0) (ds := (List.range S.r).map fun p => vecD S.r (invOut S.sh S.r p)) (tr1 := rowsF S.r S.r (invOut S.sh S.r)) (Ex_rowsF (k := S.r) ?_ (Nat.le_refl _)) (by rw [rowsF_all]; rfl)) (by rw [rowsF_all]; rfl)
  unfold fitD
  kst_p2
  generalize hF : D.obj a.Cl _ = F
  show Ex C 5 _ [("rows", .ptr 0), ("found", F)] [.lst []] _ _
  refine Ex_forR (tr1 := [.lst []]) (N := S.r) ?_ (by omega) (fun i => [("rows", .ptr 0), ("found", F)]) (fun i => rowsP S.r i unit2) rfl (by kwd_less) (fun i hi => ?_) (by kernel_rfl) (fun _ => rfl) ?_
  · subst hF; ktr_rel
  · refine Ex_assign (tr1 := rowsP S.r i unit2 ++ [.lst ((List.range S.r).map fun _ => frq 0)]) (d := .ptr (rowsP S.r i unit2).length) ?_ (by kernel_rfl) (by kernel_rfl) ?_
    · exact Ev_repM (d := frq 0) hr' (by tb_rel) (by subst hF; ktr_rel)
    rw [rowsP_len]
    have e0 : (rowsP S.r i unit2 ++ [MObj.lst ((List.range S.r).map fun _ => frq 0)])[i + 1]? = some (MObj.lst ((List.range S.r).map fun _ => frq 0)) := by
      rw [List.getElem?_append_right (by rw [rowsP_len]; omega), rowsP_len]; simp
    have e1 : (rowsP S.r i unit2 ++ [MObj.lst ((List.range S.r).map fun _ => frq 0)]).set (i + 1) (MObj.lst (((List.range S.r).map fun _ => frq 0).set ((i : Nat) : Int).toNat (frq 1))) = rowsP S.r i unit2 ++ [MObj.lst ((List.range S.r).map fun q => frq (unit2 i q))] := by
      rw [List.set_append_right _ _ (by rw [rowsP_len]; omega), rowsP_len]
      simp only [Nat.sub_self, List.set_cons_zero, Int.toNat_natCast]
      congr 3
      rw [setU frq (fun _ => 0)]
      apply List.map_congr_left
      intro q _
      simp only [upN, unit2]
      by_cases hq : q = i
      · subst hq; simp
      · have : ¬ i = q := fun e => hq e.symm
        simp [hq, this]
    refine Ex_setitem (tr1 := rowsP S.r i unit2 ++ [.lst ((List.range S.r).map fun _ => frq 0)]) (tr2 := rowsP S.r i unit2 ++ [.lst ((List.range S.r).map fun _ => frq 0)]) (tr3 := rowsP S.r i unit2 ++ [.lst ((List.range S.r).map fun _ => frq 0)]) (m := i + 1) (k := (i : Nat)) (d := frq 1) (by ktr_rel) (by ktr_rel) (by ktr_rel) e0 (by omega) (by simp; omega) (by omega) (by kernel_rfl) e1 ?_
    refine Ex_append (tr1 := rowsP S.r i unit2 ++ [.lst ((List.range S.r).map fun q => frq (unit2 i q))]) (tr2 := rowsP S.r i unit2 ++ [.lst ((List.range S.r).map fun q => frq (unit2 i q))]) (tr3 := rowsP S.r (i + 1) unit2) (m := 0) (ds := (List.range i).map fun p => .ptr (p + 1)) (ds1 := (List.range i).map fun p => .ptr (p + 1)) (d := .ptr (i + 1)) (by ktr_rel) (by ktr_rel) rfl rfl (by simp; omega) (by kernel_rfl) (by kernel_rfl) (by kernel_rfl) ⟨_, rfl⟩ ?_ (Ex_end (by kwd_less))
    show (MObj.lst ((List.range i).map (fun p => D.ptr (p + 1)) ++ [.ptr (i + 1)])) :: ((List.range i).map (fun p => MObj.lst ((List.range S.r).map fun q => frq (unit2 p q))) ++ [.lst ((List.range S.r).map fun q => frq (unit2 i q))]) = _
    unfold rowsP
    rw [List.range_succ, List.map_append, List.map_append]; rfl
  refine Ex_forR (tr1 := rowsP S.r S.r unit2) (N := S.r) ?_ (by omega) (fun j => [("rows", .ptr 0), ("found", F)]) (fun j => rowsP S.r S.r (invOut S.sh j)) rfl (by kwd_less) (fun j hj => ?_) (by kernel_rfl) (fun _ => rfl) ?_
  · subst hF; ktr_rel
  · have b0 := invOut_size hr hsh j (by omega)
    show Ex _ _ _ _ _ _ (.next _ (rowsP S.r S.r (invIn S.sh j (invOut S.sh j) j)))
    generalize hV : invOut S.sh j = V at b0 ⊢
    refine Ex_forD (tr1 := rowsP S.r S.r V) (N := j) ?_ (by omega) (fun s => [("j", .int j), ("rows", .ptr 0), ("found", F)]) (fun s => rowsP S.r S.r (invIn S.sh j V s)) rfl (by kwd_less) (fun s hs => ?_) (by kernel_rfl) (fun _ => rfl) (Ex_end (by kwd_less))
    · ktr_rel
    · have b1 := invIn_size hj hr hsh b0 s (by omega)
      have b2 := iB3 (tri2 (j := j) (i := s) (by omega) (by omega))
      show Ex _ _ _ _ _ _ (.next _ (rowsP S.r S.r (up2 (invIn S.sh j V s) (j - 1 - s) j (0 - ps (fun t => S.sh (j - 1 - s + 1 + t) (j - 1 - s) * invIn S.sh j V s (j - 1 - s + 1 + t) j) (j + 1 - (j - 1 - s + 1))))))
      have hij : j - 1 - s < j := by omega
      have hn : j + 1 - (j - 1 - s + 1) ≤ 2 := by omega
      generalize invIn S.sh j V s = U at b1 ⊢
      generalize j - 1 - s = i at *
      have hps := fun k (hk : k ≤ j + 1 - (i + 1)) => ps_size (f := fun t => S.sh (i + 1 + t) i * U (i + 1 + t) j) (b := 23786 + iB (tri j + s)) (m := j + 1 - (i + 1)) (fun t ht => (hsh (i + 1 + t) (by omega) i (by omega)).mul (b1 _ _)) k hk
      have hbd : ∀ k, k ≤ j + 1 - (i + 1) → 1 + k * (23786 + iB (tri j + s) + 1) ≤ 800000 := fun k hk => by
        have := Nat.mul_le_mul_right (23786 + iB (tri j + s) + 1) (show k ≤ 2 by omega)
        omega
      refine Ex_assign (tr1 := rowsP S.r S.r U) (d := frq 0) (by ktr_rel) (by kernel_rfl) (by kernel_rfl) ?_
      refine Ex_forR2 (tr1 := rowsP S.r S.r U) (p := i + 1) (q := j + 1) ?_ (by omega) (by omega) (fun t => [("total", frq (ps (fun t => S.sh (i + 1 + t) i * U (i + 1 + t) j) t)), ("i", .int i), ("j", .int j), ("rows", .ptr 0), ("found", F)]) (fun _ => rowsP S.r S.r U) rfl (by kwd_less) (fun t ht => ?_) (by kernel_rfl) (fun _ => rfl) ?_
      · show Ev _ _ _ _ _ _ _ (D.rng ((i : Int) + 1) ((j : Int) + 1) 1)
        ktr_rel
      · have hl : i + 1 + t < S.r := by omega
        have hil : i < i + 1 + t := by omega
        have c1 := hsh (i + 1 + t) hl i hil
        have c2 := b1 (i + 1 + t) j
        have c3 := hps t (by omega)
        have c4 := hbd t (by omega)
        refine Ex_assign (tr1 := rowsP S.r S.r U) (d := frq (ps (fun t => S.sh (i + 1 + t) i * U (i + 1 + t) j) (t + 1))) ?_ (by kernel_rfl) (by kernel_rfl) (Ex_end (by kwd_less))
        show Ev _ _ _ _ _ _ _ (frq (ps (fun t => S.sh (i + 1 + t) i * U (i + 1 + t) j) t + S.sh (i + 1 + t) i * U (i + 1 + t) j))
        subst hF
        ktr_rel
      · have c3 := hps (j + 1 - (i + 1)) (Nat.le_refl _)
        have c4 := hbd (j + 1 - (i + 1)) (Nat.le_refl _)
        have c5 : Sz 1 0 := Sz.zero (by decide)
        have hi : i < S.r := by omega
        have e1 := rowsP_set (r := S.r) (i := S.r) (k := i) (j := j) (V := U) (x := 0 - ps (fun t => S.sh (i + 1 + t) i * U (i + 1 + t) j) (j + 1 - (i + 1))) hi
        refine Ex_setitem (tr1 := rowsP S.r S.r U) (tr2 := rowsP S.r S.r U) (tr3 := rowsP S.r S.r U) (m := i + 1) (k := (j : Nat)) (d := frq (0 - ps (fun t => S.sh (i + 1 + t) i * U (i + 1 + t) j) (j + 1 - (i + 1)))) ?_ (by ktr_rel) (by ktr_rel) (rowsP_get hi) (by omega) (by simp; omega) (by omega) (by kernel_rfl) e1 (Ex_end (by kwd_less))
        ktr_rel
  · kst_p2
theorem inverse_spec (G : Glob C a) {m : Nat} {w : Option (Nat → Rat)} {S : GS} {co : List D} {st fi rs : Nat → Rat} (hr : S.r ≤ 3) (hsh : ∀ i, i < S.r → ∀ t, t < i → Sz 23786 (S.sh i t)) (hco : D.lims 0 co = true) :
    Fn C 6 (.ref a.f_inverse_shares) tr [fitD a.Cl m w S co st fi rs] tr (matD S.r S.r (invOut S.sh S.r)) :=
  Fn_frame (inverse_spec0 G hr hsh) (by show (D.lim _ _ && _) = true; rw [lim_fitD hco]; rfl)
end


local macro_rules | `(tactic| kwd_inv) => `(tactic| first
  | ((with_reducible refine' Fn.mono (inverse_spec ?g ?m ?s ?c) ?l); (case g => assumption); (case m => assumption); (case s => assumption); (case c => assumption); (case l => decide))
  | fail "no")

section
variable {C : Cx} {a : Addrs} {tr : List MObj} {n : Nat}
def mxn (i j : Nat) : Nat := if j > i then j else i
def cvp (V : Nat → Nat → Rat) (nm : Nat → Rat) (i j k : Nat) : Rat := ps (fun t => V i (mxn i j + t) * V j (mxn i j + t) / nm (mxn i j + t)) k
def cv (S : GS) (i j : Nat) : Rat := cvp (invOut S.sh S.r) S.nm i j (S.r - mxn i j)
theorem cvp_size {m : Nat} {S : GS} {V : Nat → Nat → Rat} (hr : S.r ≤ 3) (hV : ∀ p q, Sz 340000 (V p q)) (H : GsOk m S) {i j : Nat} : ∀ k, k ≤ S.r - mxn i j → Sz 2200000 (cvp V S.nm i j k) := fun k hk => by
  have h3 : k * (700000 + 1) ≤ 3 * (700000 + 1) := Nat.mul_le_mul_right _ (by omega)
  refine (ps_size (b := 700000) (m := S.r - mxn i j) (fun t ht => ?_) k hk).le (by omega)
  have b1 := sB2 (t := mxn i j + t) (by omega)
  have b2 : nB (mxn i j + t) = 8 * sB (mxn i j + t) + 13 := rfl
  exact (((hV _ _).mul (hV _ _)).div (H.nm (mxn i j + t) (by omega))).le (by omega)
theorem GsOk.shz {m : Nat} {S : GS} (H : GsOk m S) (hr : S.r ≤ 3) : ∀ i, i < S.r → ∀ t, t < i → Sz 23786 (S.sh i t) := fun i hi t ht => (H.sh i hi t ht).le (by
    have := sB2 (t := t) (by omega)
    have : nB t = 8 * sB t + 13 := rfl
    omega)
theorem inv_size {m : Nat} {S : GS} (H : GsOk m S) (hr : S.r ≤ 3) : ∀ p q, Sz 340000 (invOut S.sh S.r p q) := fun p q =>
  (invOut_size hr (H.shz hr) S.r (Nat.le_refl _) p q).le (iB3 (by
    have : tri S.r ≤ 3 := by
      match S.r, hr with
      | 0, _ => decide
      | 1, _ => decide
      | 2, _ => decide
      | 3, _ => decide
    exact this))
theorem unscaled_spec0 (G : Glob C a) {m : Nat} {w : Option (Nat → Rat)} {S : GS} {co : List D} {st fi rs : Nat → Rat} (hr : S.r ≤ 3) (H : GsOk m S) (hco : D.lims 0 co = true) :
    Fn C 7 (.ref a.f_unscaled_covariance) [] [fitD a.Cl m w S co st fi rs] [] (matD S.r S.r (cv S)) := by
  refine Fn_drop0 (tr := []) (ex := [.dead]) ?_ lim_mat
  refine Fn_ofΓ (Γ := [("found", fitD a.Cl m w S co st fi rs)]) G.d_unscaled_covariance rfl rfl fun qual L code => ?_
  conv in (fbody _) => whnf
  have hr' : S.r ≤ 1000 := by omega
  have hsh := H.shz hr
  have hV := inv_size H hr
  refine Ex_of (Ex_ret_freeze (m := 0) (ds := (List.range S.r).map fun p => vecD S.r (cv S p)) (tr1 := [.lst ((List.range S.r).map fun p => vecD S.r (cv S p))]) ?_ rfl) rfl
  have hFl : (fitD a.Cl m w S co st fi rs).lim 1 = true := lim_fitD (by rw [lims_iff] at hco ⊢; exact fun d h => D.lim_le (by omega) d (hco d h))
  refine Ex_assign (tr1 := []) (d := matD S.r S.r (invOut S.sh S.r)) (by ktr_rel) (by kernel_rfl) (by kernel_rfl) ?_
  have hcv : ∀ i j, cv S i j = cvp (invOut S.sh S.r) S.nm i j (S.r - mxn i j) := fun _ _ => rfl
  generalize invOut S.sh S.r = V at hV hcv ⊢
  kst_p2
  revert hFl
  unfold fitD
  generalize hF : D.obj a.Cl _ = F
  intro hFl
  show Ex C 6 _ [("rows", .ptr 0), ("inverse", matD S.r S.r V), ("found", F)] [.lst []] _ _
  refine Ex_forR (tr1 := [.lst []]) (N := S.r) ?_ (by omega) (fun i => [("rows", .ptr 0), ("inverse", matD S.r S.r V), ("found", F)]) (fun i => [.lst ((List.range i).map fun p => vecD S.r (cv S p))]) rfl (by kwd_less) (fun i hi => ?_) (by kernel_rfl) (fun _ => rfl) ?_
  · subst hF; ktr_rel
  · refine Ex_drop (ex := [.dead]) ?_ (Nat.le_refl 1) ?_ ?_
    case refine_2 =>
      intro p hp
      simp only [List.mem_cons, List.mem_nil_iff, or_false] at hp
      rcases hp with rfl | rfl | rfl
      · rfl
      · exact lim_mat
      · exact hFl
    case refine_3 =>
      intro x hx
      rw [List.mem_singleton.mp hx]
      exact lim_map fun i _ => lim_vec
    kst_p2
    show Ex C 6 _ [("row", .ptr 1), ("i", .int i), ("rows", .ptr 0), ("inverse", matD S.r S.r V), ("found", F)] [.lst ((List.range i).map fun p => vecD S.r (cv S p)), .lst []] _ _
    refine Ex_of (Ex_freeze_in (Γ1 := [("rows", .ptr 0), ("inverse", matD S.r S.r V), ("found", F)]) (m := 1) (r := 0) (ds := (List.range S.r).map fun j => frq (cv S i j)) (M := .lst ((List.range i).map (fun p => vecD S.r (cv S p)) ++ [.ptr 1])) (M' := .lst ((List.range i).map (fun p => vecD S.r (cv S p)) ++ [vecD S.r (cv S i)]))
      (tr1 := [.lst ((List.range i).map (fun p => vecD S.r (cv S p)) ++ [.ptr 1]), .lst ((List.range S.r).map fun j => frq (cv S i j))]) ?_ rfl rfl (by decide) (.lst (.snoc .ptr (.refl ..)))) ?_
    · refine Ex_forR (tr1 := [.lst ((List.range i).map fun p => vecD S.r (cv S p)), .lst []]) (N := S.r) ?_ (by omega) (fun j => [("row", .ptr 1), ("i", .int i), ("rows", .ptr 0), ("inverse", matD S.r S.r V), ("found", F)])
        (fun j => [.lst ((List.range i).map fun p => vecD S.r (cv S p)), .lst ((List.range j).map fun j => frq (cv S i j))]) rfl (by kwd_less) (fun j hj => ?_) (by kernel_rfl) (fun _ => rfl) ?_
      · subst hF; ktr_rel
      · have hmx : mxn i j < S.r := by unfold mxn; split <;> omega
        have hsz := cvp_size (i := i) (j := j) hr hV H
        refine Ex_assign (tr1 := [.lst ((List.range i).map fun p => vecD S.r (cv S p)), .lst ((List.range j).map fun j => frq (cv S i j))]) (d := frq (cvp V S.nm i j 0)) (by show Ev _ _ _ _ _ _ _ (frq 0); ktr_rel) (by kernel_rfl) (by kernel_rfl) ?_
        refine Ex_forR2 (tr1 := [.lst ((List.range i).map fun p => vecD S.r (cv S p)), .lst ((List.range j).map fun j => frq (cv S i j))]) (p := mxn i j) (q := S.r) ?_ (by omega) (by omega) (fun t => [("total", frq (cvp V S.nm i j t)), ("j", .int j), ("row", .ptr 1), ("i", .int i), ("rows", .ptr 0), ("inverse", matD S.r S.r V), ("found", F)]) (fun _ => [.lst ((List.range i).map fun p => vecD S.r (cv S p)), .lst ((List.range j).map fun j => frq (cv S i j))]) rfl (by kwd_less) (fun t ht => ?_) (by kernel_rfl) (fun _ => rfl) ?_
        · refine Ev_of (d := .rng (if ((j : Nat) : Int) > ((i : Nat) : Int) then (j : Int) else i) S.r 1) (by subst hF; ktr_rel) ?_
          congr 1
          unfold mxn
          split <;> split <;> omega
        · have hk : mxn i j + t < S.r := by omega
          have h1 := hV i (mxn i j + t)
          have h2 := hV j (mxn i j + t)
          have h3 := H.nm (mxn i j + t) hk
          have h4 := H.nz (mxn i j + t) hk
          have h6 := hsz t (by omega)
          have b1 := sB2 (t := mxn i j + t) (by omega)
          have b2 : nB (mxn i j + t) = 8 * sB (mxn i j + t) + 13 := rfl
          have hpt : cvp V S.nm i j (t + 1) = cvp V S.nm i j t + V i (mxn i j + t) * V j (mxn i j + t) / S.nm (mxn i j + t) := rfl
          rw [hpt]
          generalize cvp V S.nm i j t = T at h6 ⊢
          generalize mxn i j + t = k at *
          refine Ex_assign (tr1 := [.lst ((List.range i).map fun p => vecD S.r (cv S p)), .lst ((List.range j).map fun j => frq (cv S i j))]) (d := frq (V i k * V j k / S.nm k)) (by subst hF; ktr_rel) (by kernel_rfl) (by kernel_rfl) ?_
          refine Ex_assign (tr1 := [.lst ((List.range i).map fun p => vecD S.r (cv S p)), .lst ((List.range j).map fun j => frq (cv S i j))]) (d := frq (T + V i k * V j k / S.nm k)) (by ktr_rel) (by kernel_rfl) (by kernel_rfl) (Ex_end (by kwd_less))
        · rw [← hcv]
          kst_p2
          refine Ex_of (Ex_end (Γ2 := [("row", .ptr 1), ("i", .int i), ("rows", .ptr 0), ("inverse", matD S.r S.r V), ("found", F)]) (by kwd_less)) ?_
          show Out.next _ [_, .lst ((List.range j).map (fun j => frq (cv S i j)) ++ [frq (cv S i j)])] = _
          rw [snocR (out := fun j => frq (cv S i j))]
      · kst_p2
        exact Ex_of (Ex_end (Γ2 := [("rows", .ptr 0), ("inverse", matD S.r S.r V), ("found", F)]) (by kwd_less)) rfl
    · show Out.next _ [.lst ((List.range i).map (fun p => vecD S.r (cv S p)) ++ [vecD S.r (cv S i)]), .dead] = _
      rw [snocR (out := fun p => vecD S.r (cv S p))]; rfl
  · kst_p2
theorem unscaled_spec (G : Glob C a) {m : Nat} {w : Option (Nat → Rat)} {S : GS} {co : List D} {st fi rs : Nat → Rat} (hr : S.r ≤ 3) (H : GsOk m S) (hco : D.lims 0 co = true) :
    Fn C 7 (.ref a.f_unscaled_covariance) tr [fitD a.Cl m w S co st fi rs] tr (matD S.r S.r (cv S)) :=
  Fn_frame (unscaled_spec0 G hr H hco) (by show (D.lim _ _ && _) = true; rw [lim_fitD hco]; rfl)
theorem cv_size {m : Nat} {S : GS} (hr : S.r ≤ 3) (H : GsOk m S) (i j : Nat) : Sz 2200000 (cv S i j) := cvp_size hr (inv_size H hr) H _ (Nat.le_refl _)
end


local macro_rules | `(tactic| kwd_inv) => `(tactic| first
  | ((with_reducible refine' Fn.mono (unscaled_spec ?g ?m ?s ?c) ?l); (case g => assumption); (case m => assumption); (case s => assumption); (case c => assumption); (case l => decide))
  | fail "no")

section
variable {C : Cx} {a : Addrs} {tr : List MObj} {n : Nat}
theorem Sz.int {i : Int} {b : Nat} (h : i.natAbs < 2 ^ b) (hb : 1 ≤ b) : Sz b (i : Rat) := by
  refine ⟨?_, ?_⟩
  · rw [Rat.num_intCast]; exact h
  · rw [Rat.den_intCast]; exact Nat.one_lt_two_pow (by omega)
def dfQ (m : Nat) (S : GS) : Rat := (((m : Int) - S.r : Int) : Rat)
theorem variance_spec (G : Glob C a) {m : Nat} {w : Option (Nat → Rat)} {S : GS} {co : List D} {st fi rs : Nat → Rat} (hm : m ≤ 4) (hw : Wsz 2 m w) (hrs : Vsz 26757 m rs) (hd : 0 < (m : Int) - S.r) :
    Fn C 6 (.ref a.f_variance) tr [fitD a.Cl m w S co st fi rs] tr (frq (dt m (wt w rs) rs / dfQ m S)) := by
  refine Fn_ofΓ (Γ := [("found", fitD a.Cl m w S co st fi rs)]) G.d_variance rfl rfl fun qual L code => ?_
  conv in (fbody _) => whnf
  have h1 := (hw.wt hrs).dt4 hm hrs
  have h2 : Sz 3 (dfQ m S) := Sz.int (by show _ < 8; omega) (by decide)
  have h3 : dfQ m S ≠ 0 := fun h => by
    have := congrArg Rat.num h
    unfold dfQ at this
    rw [Rat.num_intCast] at this
    simp at this
    omega
  have e := div_spec (C := C) (tr := tr) (a := a) G h1 h2 (by decide) h3
  have e0 := rss_spec (C := C) (tr := tr) (a := a) (S := S) (co := co) (st := st) (fi := fi) G hm hw hrs
  unfold fitD at e0 ⊢
  refine Ex_return (Ev_callN (by ktn_open) (by kernel_rfl) (by kernel_rfl) (by kernel_rfl) (by kernel_rfl) (tr1 := tr) (ds := [frq (dt m (wt w rs) rs), frq (dfQ m S)]) (Evs_cons (tr1 := tr) ?_ (Evs_cons (tr1 := tr) (Ev_of (d := .tup [.int ((m : Int) - S.r), .int 1]) ?_ ?_) Evs_nil (by kernel_rfl)) (by kernel_rfl)) (Fn.mono e (by decide)))
  · refine Ev_callN (by ktn_open) (by kernel_rfl) (by kernel_rfl) (by kernel_rfl) (by kernel_rfl) (tr1 := tr) (ds := _) (by tb_rel) (Fn.mono e0 (by decide))
  · ktr_rel
  · exact (frq_int _).symm
theorem variance_spec0 (G : Glob C a) {m : Nat} {w : Option (Nat → Rat)} {S : GS} {co : List D} {st fi rs : Nat → Rat} (hm : m ≤ 4) (hw : Wsz 2 m w) (hrs : Vsz 26757 m rs) (hd : (m : Int) - S.r = 0) :
    Fn C 6 (.ref a.f_variance) tr [fitD a.Cl m w S co st fi rs] tr (infD (dt m (wt w rs) rs).num.sign) := by
  refine Fn_ofΓ (Γ := [("found", fitD a.Cl m w S co st fi rs)]) G.d_variance rfl rfl fun qual L code => ?_
  conv in (fbody _) => whnf
  have e := div_spec0 (C := C) (tr := tr) (a := a) (x := dt m (wt w rs) rs) G
  have e0 := rss_spec (C := C) (tr := tr) (a := a) (S := S) (co := co) (st := st) (fi := fi) G hm hw hrs
  unfold fitD at e0 ⊢
  refine Ex_return (Ev_callN (by ktn_open) (by kernel_rfl) (by kernel_rfl) (by kernel_rfl) (by kernel_rfl) (tr1 := tr) (ds := [frq (dt m (wt w rs) rs), frq 0]) (Evs_cons (tr1 := tr) ?_ (Evs_cons (tr1 := tr) (Ev_of (d := .tup [.int ((m : Int) - S.r), .int 1]) ?_ ?_) Evs_nil (by kernel_rfl)) (by kernel_rfl)) (Fn.mono e (by decide)))
  · refine Ev_callN (by ktn_open) (by kernel_rfl) (by kernel_rfl) (by kernel_rfl) (by kernel_rfl) (tr1 := tr) (ds := _) (by tb_rel) (Fn.mono e0 (by decide))
  · ktr_rel
  · rw [hd]; rfl

theorem covariance_spec (G : Glob C a) {m : Nat} {w : Option (Nat → Rat)} {S : GS} {co : List D} {st fi rs : Nat → Rat} (hm : m ≤ 4) (hw : Wsz 2 m w) (hrs : Vsz 26757 m rs) (hr : S.r ≤ 3) (H : GsOk m S) (hco : D.lims 0 co = true) (hd : 0 < (m : Int) - S.r) :
    Fn C 8 (.ref a.f_covariance) tr [fitD a.Cl m w S co st fi rs] tr (matD S.r S.r fun i j => cv S i j * (dt m (wt w rs) rs / dfQ m S)) := by
  refine Fn_ofΓ (Γ := [("found", fitD a.Cl m w S co st fi rs)]) G.d_covariance rfl rfl fun qual L code => ?_
  conv in (fbody _) => whnf
  have hr' : S.r ≤ 1000 := by omega
  have e0 := variance_spec (C := C) (tr := tr) (a := a) (S := S) (co := co) (st := st) (fi := fi) G hm hw hrs hd
  have h1 := (hw.wt hrs).dt4 hm hrs
  have h2 : Sz 3 (dfQ m S) := Sz.int (by show _ < 8; omega) (by decide)
  have hsc := h1.div h2
  generalize dt m (wt w rs) rs / dfQ m S = sc at e0 hsc ⊢
  refine Ex_assign (tr1 := tr) (d := frq sc) (Ev_callN (by ktn_open) (by kernel_rfl) (by kernel_rfl) (by kernel_rfl) (by kernel_rfl) (by tb_rel) (Fn.mono e0 (by decide))) (by kernel_rfl) (by kernel_rfl) ?_
  refine Ex_return (Ev_of (Ev_compL (tr := tr) (ds := (List.range S.r).map fun i => vecD S.r (cv S i)) ((List.range S.r).map fun i => vecD S.r fun j => cv S i j * sc) (fun _ => tr) [("scale", frq sc)] ?_ (by simp; omega) (by kernel_rfl) (by kwd_less) (by simp) (fun k e o he ho Lc => ?_) (fun _ => rfl)) rfl)
  · show Ev _ _ _ _ _ _ _ (matD S.r S.r (cv S))
    ktr_rel
  · obtain ⟨hk, rfl⟩ := get_map he
    obtain ⟨_, rfl⟩ := get_map ho
    refine ⟨(fun c hc => nomatch hc), ?_⟩
    refine Ev_of (Ev_compL (tr := tr) (ds := (List.range S.r).map fun j => frq (cv S k j)) ((List.range S.r).map fun j => frq (cv S k j * sc)) (fun _ => tr) [("scale", frq sc)] ?_ (by simp; omega) (by kernel_rfl) (by kwd_less) (by simp) (fun j e o he ho Lc2 => ?_) (fun _ => rfl)) rfl
    · show Ev _ _ _ _ _ _ _ (vecD S.r (cv S k))
      ktr_rel
    · obtain ⟨hj, rfl⟩ := get_map he
      obtain ⟨_, rfl⟩ := get_map ho
      refine ⟨(fun c hc => nomatch hc), ?_⟩
      have h6 := cv_size hr H k j
      ktr_rel
theorem covariance_spec0 (G : Glob C a) {m : Nat} {w : Option (Nat → Rat)} {S : GS} {co : List D} {st fi rs : Nat → Rat} (hm : m ≤ 4) (hw : Wsz 2 m w) (hrs : Vsz 26757 m rs) (hr : S.r ≤ 3) (H : GsOk m S) (hco : D.lims 0 co = true) (hd : (m : Int) - S.r = 0) :
    ∃ q : Nat → Nat → Int, Fn C 8 (.ref a.f_covariance) tr [fitD a.Cl m w S co st fi rs] tr (.lst ((List.range S.r).map fun i => .lst ((List.range S.r).map fun j => infD (q i j)))) := by
  have hi : (dt m (wt w rs) rs).num.sign = 0 ∨ (dt m (wt w rs) rs).num.sign = 1 ∨ (dt m (wt w rs) rs).num.sign = -1 := by
    rcases Int.lt_trichotomy (dt m (wt w rs) rs).num 0 with h | h | h
    · exact .inr (.inr (Int.sign_eq_neg_one_of_neg h))
    · rw [h]; exact .inl rfl
    · exact .inr (.inl (Int.sign_eq_one_of_pos h))
  have e0 := variance_spec0 (C := C) (tr := tr) (a := a) (S := S) (co := co) (st := st) (fi := fi) G hm hw hrs hd
  generalize (dt m (wt w rs) rs).num.sign = sc at e0 hi
  obtain ⟨q, hq⟩ : ∃ q : Nat → Nat → Int, ∀ i j, Fn C 3 (.ref a.f_mul) tr [frq (cv S i j), infD sc] tr (infD (q i j)) :=
    ⟨fun i j => Classical.choose (mul_specInf (C := C) (tr := tr) (x := cv S i j) G hi), fun i j => Classical.choose_spec (mul_specInf (C := C) (tr := tr) (x := cv S i j) G hi)⟩
  refine ⟨q, ?_⟩
  refine Fn_ofΓ (Γ := [("found", fitD a.Cl m w S co st fi rs)]) G.d_covariance rfl rfl fun qual L code => ?_
  conv in (fbody _) => whnf
  have hr' : S.r ≤ 1000 := by omega
  refine Ex_assign (tr1 := tr) (d := infD sc) (Ev_callN (by ktn_open) (by kernel_rfl) (by kernel_rfl) (by kernel_rfl) (by kernel_rfl) (by tb_rel) (Fn.mono e0 (by decide))) (by kernel_rfl) (by kernel_rfl) ?_
  refine Ex_return (Ev_of (Ev_compL (tr := tr) (ds := (List.range S.r).map fun i => vecD S.r (cv S i)) ((List.range S.r).map fun i => .lst ((List.range S.r).map fun j => infD (q i j))) (fun _ => tr) [("scale", infD sc)] ?_ (by simp; omega) (by kernel_rfl) (by kwd_less) (by simp) (fun k e o he ho Lc => ?_) (fun _ => rfl)) rfl)
  · show Ev _ _ _ _ _ _ _ (matD S.r S.r (cv S))
    ktr_rel
  · obtain ⟨hk, rfl⟩ := get_map he
    obtain ⟨_, rfl⟩ := get_map ho
    refine ⟨(fun c hc => nomatch hc), ?_⟩
    refine Ev_of (Ev_compL (tr := tr) (ds := (List.range S.r).map fun j => frq (cv S k j)) ((List.range S.r).map fun j => infD (q k j)) (fun _ => tr) [("scale", infD sc)] ?_ (by simp; omega) (by kernel_rfl) (by kwd_less) (by simp) (fun j e o he ho Lc2 => ?_) (fun _ => rfl)) rfl
    · show Ev _ _ _ _ _ _ _ (vecD S.r (cv S k))
      ktr_rel
    · obtain ⟨hj, rfl⟩ := get_map he
      obtain ⟨_, rfl⟩ := get_map ho
      refine ⟨(fun c hc => nomatch hc), ?_⟩
      exact Ev_callN (by ktn_open) (by kernel_rfl) (by kernel_rfl) (by kernel_rfl) (by kernel_rfl) (by tb_rel) (Fn.mono (hq k j) (by decide))

/-! the F value -/
theorem f_value_specN (G : Glob C a) {x y : Rat} {e l : Nat} (hx : Sz 3 x) (hy : Sz 3 y) (he : 0 < e ∧ e < 8) (hl : l = 0) :
    ∃ i : Int, Fn C 4 (.ref a.f_f_value) tr [frq x, .int e, frq y, .int l] tr (if i = 0 then infD 0 else frq 0) := by
  have h2 : Sz 3 ((e : Int) : Rat) := Sz.int (by show _ < 8; omega) (by decide)
  have h3 : ((e : Int) : Rat) ≠ 0 := fun h => by
    have := congrArg Rat.num h
    rw [Rat.num_intCast] at this
    simp at this
    omega
  have e1 := div_spec (C := C) (tr := tr) (a := a) G hx h2 (by decide) h3
  have e2 := div_spec0 (C := C) (tr := tr) (a := a) (x := y) G
  have hi : y.num.sign = 0 ∨ y.num.sign = 1 ∨ y.num.sign = -1 := by
    rcases Int.lt_trichotomy y.num 0 with h | h | h
    · exact .inr (.inr (Int.sign_eq_neg_one_of_neg h))
    · rw [h]; exact .inl rfl
    · exact .inr (.inl (Int.sign_eq_one_of_pos h))
  have e3 := div_specInf (C := C) (tr := tr) (a := a) (x := x / ((e : Int) : Rat)) G hi
  subst hl
  refine ⟨y.num.sign, Fn_ofΓ (Γ := [("square", frq x), ("df", .int e), ("rest", frq y), ("rest_df", .int (0 : Nat))]) G.d_f_value rfl rfl fun qual L code => ?_⟩
  conv in (fbody _) => whnf
  refine Ex_return (Ev_callN (by ktn_open) (by kernel_rfl) (by kernel_rfl) (by kernel_rfl) (by kernel_rfl) (tr1 := tr) (ds := [frq (x / ((e : Int) : Rat)), infD y.num.sign]) (Evs_cons (tr1 := tr) ?_ (Evs_cons (tr1 := tr) ?_ Evs_nil (by kernel_rfl)) (by kernel_rfl)) (Fn.mono e3 (by decide)))
  · refine Ev_callN (by ktn_open) (by kernel_rfl) (by kernel_rfl) (by kernel_rfl) (by kernel_rfl) (tr1 := tr) (ds := [frq x, frq ((e : Int) : Rat)]) (Evs_cons (tr1 := tr) (by ktr_rel) (Evs_cons (tr1 := tr) (Ev_of (d := .tup [.int e, .int 1]) (by ktr_rel) (frq_int _).symm) Evs_nil (by kernel_rfl)) (by kernel_rfl)) (Fn.mono e1 (by decide))
  · refine Ev_callN (by ktn_open) (by kernel_rfl) (by kernel_rfl) (by kernel_rfl) (by kernel_rfl) (tr1 := tr) (ds := [frq y, frq 0]) (Evs_cons (tr1 := tr) (by ktr_rel) (Evs_cons (tr1 := tr) (Ev_of (d := .tup [.int (0 : Nat), .int 1]) (by ktr_rel) rfl) Evs_nil (by kernel_rfl)) (by kernel_rfl)) (Fn.mono e2 (by decide))
theorem f_value_specP (G : Glob C a) {x y : Rat} {e l : Nat} (hx : Sz 3 x) (hy : Sz 3 y) (he : 0 < e ∧ e < 8) (hl : 0 < l ∧ l < 8) {d : D} (hd : Fn C 3 (.ref a.f_div) tr [frq (x / ((e : Int) : Rat)), frq (y / ((l : Int) : Rat))] tr d) :
    Fn C 4 (.ref a.f_f_value) tr [frq x, .int e, frq y, .int l] tr d := by
  have h2 : Sz 3 ((e : Int) : Rat) := Sz.int (by show _ < 8; omega) (by decide)
  have h3 : ((e : Int) : Rat) ≠ 0 := fun h => by
    have := congrArg Rat.num h
    rw [Rat.num_intCast] at this
    simp at this
    omega
  have h4 : Sz 3 ((l : Int) : Rat) := Sz.int (by show _ < 8; omega) (by decide)
  have h5 : ((l : Int) : Rat) ≠ 0 := fun h => by
    have := congrArg Rat.num h
    rw [Rat.num_intCast] at this
    simp at this
    omega
  have e1 := div_spec (C := C) (tr := tr) (a := a) G hx h2 (by decide) h3
  have e2 := div_spec (C := C) (tr := tr) (a := a) G hy h4 (by decide) h5
  refine Fn_ofΓ (Γ := [("square", frq x), ("df", .int e), ("rest", frq y), ("rest_df", .int l)]) G.d_f_value rfl rfl fun qual L code => ?_
  conv in (fbody _) => whnf
  refine Ex_return (Ev_callN (by ktn_open) (by kernel_rfl) (by kernel_rfl) (by kernel_rfl) (by kernel_rfl) (tr1 := tr) (ds := [frq (x / ((e : Int) : Rat)), frq (y / ((l : Int) : Rat))]) (Evs_cons (tr1 := tr) ?_ (Evs_cons (tr1 := tr) ?_ Evs_nil (by kernel_rfl)) (by kernel_rfl)) (Fn.mono hd (by decide)))
  · refine Ev_callN (by ktn_open) (by kernel_rfl) (by kernel_rfl) (by kernel_rfl) (by kernel_rfl) (tr1 := tr) (ds := [frq x, frq ((e : Int) : Rat)]) (Evs_cons (tr1 := tr) (by ktr_rel) (Evs_cons (tr1 := tr) (Ev_of (d := .tup [.int e, .int 1]) (by ktr_rel) (frq_int _).symm) Evs_nil (by kernel_rfl)) (by kernel_rfl)) (Fn.mono e1 (by decide))
  · refine Ev_callN (by ktn_open) (by kernel_rfl) (by kernel_rfl) (by kernel_rfl) (by kernel_rfl) (tr1 := tr) (ds := [frq y, frq ((l : Int) : Rat)]) (Evs_cons (tr1 := tr) (by ktr_rel) (Evs_cons (tr1 := tr) (Ev_of (d := .tup [.int l, .int 1]) (by ktr_rel) (frq_int _).symm) Evs_nil (by kernel_rfl)) (by kernel_rfl)) (Fn.mono e2 (by decide))
end


section
variable {C : Cx} {a : Addrs} {tr : List MObj} {n : Nat}
/-! the hand -/
structure Hd where
  p : Nat
  v : Nat
  s : Nat
def handM (ns : List Int) (h : Hd) : MObj := .lst [.lst (ns.map .int), .int (h.p : Nat), .int (h.v : Nat), .int (h.s : Nat)]
def pk (ns : List Int) (h : Hd) (l : Nat) : Hd × Nat :=
  if h.v = 0 then
    if h.p = ns.length then (⟨h.p, h.v, h.s * 48271 % 2147483647⟩, h.s * 48271 % 2147483647 / 7 % l)
    else (⟨h.p + 1, (ns.getD h.p 0).natAbs / l, h.s⟩, (ns.getD h.p 0).natAbs % l)
  else (⟨h.p, h.v / l, h.s⟩, h.v % l)
def HdOk (ns : List Int) (h : Hd) : Prop := h.p ≤ ns.length ∧ h.s < 2 ^ 31
theorem pk_ok {ns : List Int} {h : Hd} {l : Nat} (H : HdOk ns h) (hl : 0 < l) : HdOk ns (pk ns h l).1 ∧ (pk ns h l).2 < l := by
  obtain ⟨h1, h2⟩ := H
  unfold pk HdOk
  split
  · split
    · exact ⟨⟨h1, by dsimp only; omega⟩, Nat.mod_lt _ hl⟩
    · exact ⟨⟨by dsimp only; omega, h2⟩, Nat.mod_lt _ hl⟩
  · exact ⟨⟨h1, h2⟩, Nat.mod_lt _ hl⟩
theorem fmod_nat (x l : Nat) : (x : Int).fmod (l : Int) = ((x % l : Nat) : Int) := by
  rw [Int.fmod_eq_emod_of_nonneg _ (by omega)]; rfl
theorem fdiv_nat (x l : Nat) : (x : Int).fdiv (l : Int) = ((x / l : Nat) : Int) := by
  rw [Int.fdiv_eq_ediv_of_nonneg _ (by omega)]; rfl
theorem idx_ints {ns : List Int} {p : Nat} (h : p < ns.length) : idx tr (.lst (ns.map .int)) (p : Int) = some (.int (ns.getD p 0)) := by
  show nth _ _ = _
  unfold nth
  rw [if_pos (by omega)]
  simp [h, List.getD]
theorem abs_nat (i : Int) : (if 0 ≤ i then i else -i) = ((i.natAbs : Nat) : Int) := by split <;> omega
theorem pick_tail (G : Glob C a) {ns : List Int} {p v s l : Nat} (hl : 0 < l) {qual : Str} {L : Addr} {code : Value} {Γ : List (Str × D)} (w : Wk [("hand", .ptr 0), ("limit", .int l)] Γ) :
    Ex C 0 (fenv (fscope 37) qual L a.f_law_pick code) Γ [handM ns ⟨p, v, s⟩] ((fbody 37).drop 1) (.ret [handM ns ⟨p, v / l, s⟩] (.int (v % l : Nat))) := by
  refine Ex_pre (Γ1 := [("hand", .ptr 0), ("limit", .int l)]) ?_ w.look
  conv in (List.drop _ _) => whnf
  have hl' : ((l : Nat) : Int) ≠ 0 := by omega
  refine Ex_assign (tr1 := [handM ns ⟨p, v, s⟩]) (d := .int (v % l : Nat)) (Ev_of (d := .int ((v : Int).fmod l)) (by ktr_rel) (by rw [fmod_nat])) (by kernel_rfl) (by kernel_rfl) ?_
  refine Ex_setitem (tr1 := [handM ns ⟨p, v, s⟩]) (tr2 := [handM ns ⟨p, v, s⟩]) (tr3 := [handM ns ⟨p, v, s⟩]) (tr4 := [handM ns ⟨p, v / l, s⟩]) (m := 0) (k := 2) (ds := [.lst (ns.map .int), .int (p : Nat), .int (v : Nat), .int (s : Nat)]) (d := .int (v / l : Nat)) (Ev_of (d := .int ((v : Int).fdiv l)) (by ktr_rel) (by rw [fdiv_nat])) (by ktr_rel) (by ktr_rel) rfl (by decide) (by simp) (by decide) (by kernel_rfl) rfl ?_
  refine Ex_returnT (tr1 := [handM ns ⟨p, v / l, s⟩]) (by ktr_rel) rfl
theorem pick_spec (G : Glob C a) {ns : List Int} {h : Hd} {l : Nat} (H : HdOk ns h) (hz : ns.length ≤ 63) (hl : 0 < l) :
    Fn C 1 (.ref a.f_law_pick) [handM ns h] [.ptr 0, .int l] [handM ns (pk ns h l).1] (.int ((pk ns h l).2 : Nat)) := by
  obtain ⟨p, v, s⟩ := h
  obtain ⟨h1, h2⟩ := H
  dsimp only at h1 h2
  have hl' : ((l : Nat) : Int) ≠ 0 := by omega
  refine Fn_ofΓ (Γ := [("hand", .ptr 0), ("limit", .int l)]) G.d_law_pick rfl rfl fun qual L code => ?_
  have tail := fun {p v s : Nat} {Γ : List (Str × D)} (w : Wk [("hand", .ptr 0), ("limit", .int l)] Γ) => pick_tail (C := C) (ns := ns) (p := p) (v := v) (s := s) (qual := qual) (L := L) (code := code) G hl w
  conv in (fbody _) => whnf
  by_cases hv : v = 0
  · subst hv
    by_cases hp : p = ns.length
    · subst hp
      have e : pk ns ⟨ns.length, 0, s⟩ l = (⟨ns.length, 0, s * 48271 % 2147483647⟩, s * 48271 % 2147483647 / 7 % l) := by simp [pk]
      rw [e]
      have hm : IntMulOk ((s : Nat) : Int) 48271 := mulOk (b := 31) (c := 16) (by rw [Int.natAbs_natCast]; exact h2) (by decide) (by decide)
      refine Ex_if_ret (tr1 := [handM ns ⟨ns.length, 0, s⟩]) (Tt_of (b := (((0 : Nat) : Int) == 0)) (by kwd_rel) rfl) ?_
      refine Ex_if_ret (tr1 := [handM ns ⟨ns.length, 0, s⟩]) (Tt_of (b := (((ns.length : Nat) : Int) == ((ns.map D.int).length : Nat))) ?_ (by simp)) ?_
      · refine Tt_cmp (tr1 := [handM ns ⟨ns.length, 0, s⟩]) (d1 := .int (ns.length : Nat)) (d2 := .int ((ns.map D.int).length : Nat)) (by ktr_rel) ?_ Cmp_eq (by kernel_rfl)
        refine Ev_callN (by ktn_open) (by kernel_rfl) (by kernel_rfl) (by kernel_rfl) (by kernel_rfl) (tr1 := [handM ns ⟨ns.length, 0, s⟩]) (ds := [.lst (ns.map .int)]) (by tb_rel) (Fn_len (.inl rfl) (by simp; omega))
      · refine Ex_setitem (tr1 := [handM ns ⟨ns.length, 0, s⟩]) (tr2 := [handM ns ⟨ns.length, 0, s⟩]) (tr3 := [handM ns ⟨ns.length, 0, s⟩]) (tr4 := [handM ns ⟨ns.length, 0, s * 48271 % 2147483647⟩]) (m := 0) (k := 3) (ds := [.lst (ns.map .int), .int (ns.length : Nat), .int (0 : Nat), .int (s : Nat)]) (d := .int (s * 48271 % 2147483647 : Nat)) (Ev_of (d := .int (((s : Int) * 48271).fmod 2147483647)) ?_ ?_) (by ktr_rel) (by ktr_rel) rfl (by decide) (by simp) (by decide) (by kernel_rfl) rfl ?_
        · ktr_rel
        · exact congrArg D.int (fmod_nat (s * 48271) 2147483647)
        · generalize s * 48271 % 2147483647 = s'
          refine Ex_returnT (tr1 := [handM ns ⟨ns.length, 0, s'⟩]) (Ev_of (d := .int (((s' : Int).fdiv 7).fmod l)) (by ktr_rel) ?_) rfl
          exact congrArg D.int ((congrArg (fun x => Int.fmod x l) (fdiv_nat s' 7)).trans (fmod_nat (s' / 7) l))
    · have hlt : p < ns.length := by omega
      have e : pk ns ⟨p, 0, s⟩ l = (⟨p + 1, (ns.getD p 0).natAbs / l, s⟩, (ns.getD p 0).natAbs % l) := by simp [pk, hp]
      rw [e]
      refine Ex_if_next (tr1 := [handM ns ⟨p, 0, s⟩]) (tr2 := [handM ns ⟨p + 1, (ns.getD p 0).natAbs, s⟩]) (Γ1 := [("hand", .ptr 0), ("limit", .int l)]) (Tt_of (b := (((0 : Nat) : Int) == 0)) (by kwd_rel) rfl) ?_ (tail (by kwd_less))
      refine Ex_if_skip (tr1 := [handM ns ⟨p, 0, s⟩]) (Tt_of (b := (((p : Nat) : Int) == ((ns.map D.int).length : Nat))) ?_ (by simp; omega)) ?_
      · refine Tt_cmp (tr1 := [handM ns ⟨p, 0, s⟩]) (d1 := .int (p : Nat)) (d2 := .int ((ns.map D.int).length : Nat)) (by ktr_rel) ?_ Cmp_eq (by kernel_rfl)
        refine Ev_callN (by ktn_open) (by kernel_rfl) (by kernel_rfl) (by kernel_rfl) (by kernel_rfl) (tr1 := [handM ns ⟨p, 0, s⟩]) (ds := [.lst (ns.map .int)]) (by tb_rel) (Fn_len (.inl rfl) (by simp; omega))
      generalize hx : ns.getD p 0 = x
      refine Ex_assign (tr1 := [handM ns ⟨p, 0, s⟩]) (d := .int x) ?_ (by kernel_rfl) (by kernel_rfl) ?_
      · refine Ev_sub (tr1 := [handM ns ⟨p, 0, s⟩]) (dv := .lst (ns.map .int)) (k := (p : Nat)) (by ktr_rel) (by ktr_rel) ((idx_ints hlt).trans (by rw [hx])) (by omega) (fun _ _ => rfl)
      refine Ex_setitem (tr1 := [handM ns ⟨p, 0, s⟩]) (tr2 := [handM ns ⟨p, 0, s⟩]) (tr3 := [handM ns ⟨p, 0, s⟩]) (tr4 := [handM ns ⟨p + 1, 0, s⟩]) (m := 0) (k := 1) (ds := [.lst (ns.map .int), .int (p : Nat), .int (0 : Nat), .int (s : Nat)]) (d := .int ((p : Int) + 1)) (by ktr_rel) (by ktr_rel) (by ktr_rel) rfl (by decide) (by simp) (by decide) (by kernel_rfl) rfl ?_
      refine Ex_setitem (tr1 := [handM ns ⟨p + 1, 0, s⟩]) (tr2 := [handM ns ⟨p + 1, 0, s⟩]) (tr3 := [handM ns ⟨p + 1, 0, s⟩]) (tr4 := [handM ns ⟨p + 1, x.natAbs, s⟩]) (m := 0) (k := 2) (ds := [.lst (ns.map .int), .int (p + 1 : Nat), .int (0 : Nat), .int (s : Nat)]) (d := .int (x.natAbs : Nat)) ?_ (by ktr_rel) (by ktr_rel) rfl (by decide) (by simp) (by decide) (by kernel_rfl) rfl (Ex_end (by kwd_less))
      rw [← abs_nat]
      by_cases h0 : 0 ≤ x
      · refine Ev_ifexp (tr1 := [handM ns ⟨p + 1, 0, s⟩]) (b := true) (by kst_p) ?_
        simp only [if_true, if_pos h0]; ktr_rel
      · refine Ev_ifexp (tr1 := [handM ns ⟨p + 1, 0, s⟩]) (b := false) (by kst_p) ?_
        simp only [Bool.false_eq_true, if_false, if_neg h0]; ktr_rel
  · have e : pk ns ⟨p, v, s⟩ l = (⟨p, v / l, s⟩, v % l) := by simp [pk, hv]
    rw [e]
    exact Ex_if_skip (tr1 := [handM ns ⟨p, v, s⟩]) (Tt_of (b := (((v : Nat) : Int) == 0)) (by kwd_rel) (by simp; omega)) (tail (by kwd_less))
def valQ (k : Nat) : Rat := [(0 : Rat), 1, 2, -1, 1 / 2, 3, -2 / 3, 5].getD k 0
theorem valQ_size (k : Nat) : Sz 3 (valQ k) := by
  unfold Sz
  match k with
  | 0 | 1 | 2 | 3 | 4 | 5 | 6 | 7 => decide +kernel
  | k + 8 => show (0 : Rat).num.natAbs < 8 ∧ (0 : Rat).den < 8; decide
def valDs : List D := [.tup [.int 0, .int 1], .tup [.int 1, .int 1], .tup [.int 2, .int 1], .tup [.int (-1), .int 1], .tup [.int 1, .int 2], .tup [.int 3, .int 1], .tup [.int (-2), .int 3], .tup [.int 5, .int 1]]
theorem idx_val {k : Nat} (h : k < 8) : idx tr (.lst valDs) (k : Int) = some (frq (valQ k)) := by
  show nth valDs (k : Int) = _
  match k, h with
  | 0, _ | 1, _ | 2, _ | 3, _ | 4, _ | 5, _ | 6, _ | 7, _ => kernel_rfl!
end
local macro_rules | `(tactic| kwd_inv) => `(tactic| first
  | ((with_reducible refine' Fn.mono (pick_spec ?g ?m ?s ?c) ?l); (case g => assumption); (case m => assumption); (case s => assumption); (case c => decide); (case l => decide))
  | fail "no")
section
variable {C : Cx} {a : Addrs} {tr : List MObj} {n : Nat}
theorem value_spec1 (G : Glob C a) {ns : List Int} {h' h : Hd} {k : Nat} (hp : k < 8) (e : Fn C 1 (.ref a.f_law_pick) [handM ns h] [.ptr 0, .int 8] [handM ns h'] (.int (k : Nat))) :
    Fn C 2 (.ref a.f_law_value) [handM ns h] [.ptr 0] [handM ns h'] (frq (valQ k)) := by
  refine Fn_ofΓ (Γ := [("hand", .ptr 0)]) G.d_law_value rfl rfl fun qual L code => ?_
  conv in (fbody _) => whnf
  refine Ex_assign (tr1 := [handM ns h']) (d := .int (k : Nat)) (Ev_callN (by ktn_open) (by kernel_rfl) (by kernel_rfl) (by kernel_rfl) (by kernel_rfl) (by tb_rel) (Fn.mono e (by decide))) (by kernel_rfl) (by kernel_rfl) ?_
  have e2 := idx_val (tr := [handM ns h']) hp
  generalize valQ k = q at e2 ⊢
  refine Ex_return ?_
  with_reducible refine' Ev_sub (tr1 := [handM ns h']) (dv := .lst valDs) (k := ((k : Nat) : Int)) ?v ?i ?d ?k ?s
  case s => exact fun _ _ => rfl
  case k => omega
  case d => exact e2
  case i => ktr_rel
  with_reducible refine' Ev_list ?a ?b
  case b => decide
  unfold valDs; tb_rel
theorem value_spec (G : Glob C a) {ns : List Int} {h : Hd} (H : HdOk ns h) (hz : ns.length ≤ 63) :
    Fn C 2 (.ref a.f_law_value) [handM ns h] [.ptr 0] [handM ns (pk ns h 8).1] (frq (valQ (pk ns h 8).2)) :=
  value_spec1 G (pk_ok H (l := 8) (by decide)).2 (pick_spec G H hz (l := 8) (by decide))
end


section
variable {C : Cx} {a : Addrs} {tr tr1 tr2 : List MObj} {n : Nat} {env : Env} {Γ : List (Str × D)}
/-! plain data compared -/
def dd (k : Nat) (d : D) : Prop := ∃ x, d.py = some x ∧ x.depth ≤ k
theorem plain_of {k : Nat} {d : D} (h : dd k d) (hk : k ≤ 64) : d.plain = true := by
  obtain ⟨x, h1, h2⟩ := h
  unfold D.plain
  rw [h1]
  simp; omega
theorem dds {k : Nat} : ∀ (ds : List D), (∀ d ∈ ds, dd k d) → ∃ xs, D.pys ds = some xs ∧ PyData.depthAll xs ≤ k
  | [], _ => ⟨[], rfl, by simp [PyData.depthAll]⟩
  | d :: ds, h => by
    obtain ⟨x, h1, h2⟩ := h d (.head _)
    obtain ⟨xs, h3, h4⟩ := dds ds fun e he => h e (.tail _ he)
    refine ⟨x :: xs, by simp [D.pys, h1, h3], ?_⟩
    simp only [PyData.depthAll]
    omega
theorem dd_lst {k : Nat} {ds : List D} (h : ∀ d ∈ ds, dd k d) : dd (k + 1) (.lst ds) := by
  obtain ⟨xs, h1, h2⟩ := dds ds h
  exact ⟨.list xs, by simp [D.py, h1], by rw [PyData.depth.eq_1]; omega⟩
theorem dd_tup {k : Nat} {ds : List D} (h : ∀ d ∈ ds, dd k d) : dd (k + 1) (.tup ds) := by
  obtain ⟨xs, h1, h2⟩ := dds ds h
  exact ⟨.tuple xs, by simp [D.py, h1], by rw [PyData.depth.eq_2]; omega⟩
theorem dd_int {i : Int} : dd 0 (.int i) := ⟨.int i, rfl, by rw [PyData.depth.eq_6]; omega⟩
theorem dd_frq {q : Rat} : dd 1 (frq q) := dd_tup fun d h => by
  simp only [List.mem_cons, List.mem_nil_iff, or_false] at h
  rcases h with rfl | rfl <;> exact dd_int
theorem dd_map {k r : Nat} {out : Nat → D} (h : ∀ i, dd k (out i)) : dd (k + 1) (.lst ((List.range r).map out)) := dd_lst fun d hd => by
  obtain ⟨i, _, rfl⟩ := List.mem_map.mp hd
  exact h i
theorem dd_vec {m : Nat} {u : Nat → Rat} : dd 2 (vecD m u) := dd_map fun _ => dd_frq
theorem dd_mat {r m : Nat} {M : Nat → Nat → Rat} : dd 3 (matD r m M) := dd_map fun _ => dd_vec
theorem plain_frq {q : Rat} : (frq q).plain = true := plain_of dd_frq (by decide)
theorem plain_vec {m : Nat} {u : Nat → Rat} : (vecD m u).plain = true := plain_of dd_vec (by decide)
theorem plain_mat {r m : Nat} {M : Nat → Nat → Rat} : (matD r m M).plain = true := plain_of dd_mat (by decide)
theorem vec_congr {m : Nat} {u v : Nat → Rat} (h : ∀ i, i < m → u i = v i) : vecD m u = vecD m v := by
  unfold vecD
  congr 1
  exact List.map_congr_left fun i hi => by rw [h i (List.mem_range.mp hi)]
theorem mat_congr {r m : Nat} {M N : Nat → Nat → Rat} (h : ∀ i, i < r → ∀ j, j < m → M i j = N i j) : matD r m M = matD r m N := by
  unfold matD
  congr 1
  exact List.map_congr_left fun i hi => vec_congr (h i (List.mem_range.mp hi))
/-- x != y where both are the same plain data -/
theorem Tt_same {l r : Expr} {pos : Pos} {d1 d2 : D} (h1 : Ev C n env Γ tr l tr1 d1) (h2 : Ev C n env Γ tr1 r tr2 d2) (e : d1 = d2) (hp : d2.plain = true) (hm : behindInMarks .NotEq r = false) : Tt C n env Γ tr (.Compare l [.NotEq] [r] pos) tr2 false := by
  subst e; exact Tt_cmp h1 h2 (Cmp_neD hp) hm
theorem Ev_same {l r : Expr} {pos : Pos} {d1 d2 : D} (h1 : Ev C n env Γ tr l tr1 d1) (h2 : Ev C n env Γ tr1 r tr2 d2) (e : d1 = d2) (hp : d2.plain = true) (hm : behindInMarks .NotEq r = false) : Ev C n env Γ tr (.Compare l [.NotEq] [r] pos) tr2 (.bool false) := by
  subst e; exact Ev_cmp h1 h2 (Cmp_neD hp) hm
theorem Ev_eqs {l r : Expr} {pos : Pos} {d1 d2 : D} (h1 : Ev C n env Γ tr l tr1 d1) (h2 : Ev C n env Γ tr1 r tr2 d2) (e : d1 = d2) (hp : d2.plain = true) (hm : behindInMarks .Eq r = false) : Ev C n env Γ tr (.Compare l [.Eq] [r] pos) tr2 (.bool true) := by
  subst e; exact Ev_cmp h1 h2 (Cmp_eqD hp) hm

/-! comprehensions whose name is a cell -/
theorem cons_look {x : Str} {e : D} {Γ0 Γ1 : List (Str × D)} (h : Wk Γ0 Γ1) : ∀ y d, List.lookup y ((x, e) :: Γ0) = some d → List.lookup y ((x, e) :: Γ1) = some d := fun y d hy => by
  rw [List.lookup_cons] at hy ⊢
  cases hyx : y == x with
  | true => rw [hyx] at hy; exact hy
  | false => rw [hyx] at hy; exact h.look y d hy
theorem Ev_compRC {elt iter : Expr} {x : Str} {px pos : Pos} {scope : Scope} {N : Nat} (out : Nat → D) (Γ0 : List (Str × D))
    (hi : Ev C n env Γ tr iter tr (.rng 0 N 1)) (hN : N ≤ 1000000) (B : blockC scope env x = true) (hk : ∀ L, (cellsFrom (L + 1) scope.names (clos env scope.names [])).lookup x = some (L + 1 + 0)) (hΓ : Wk Γ0 (visible scope env Γ))
    (step : ∀ k, k < N → ∀ Lc, Ev C n (cenvOf scope env Lc) ((x, .int k) :: Γ0) tr elt tr (out k))
    (hs : ∀ v, foldedSetIterable iter env v = pure v) :
    Ev C n env Γ tr (.ListComp elt [⟨.Name x px, iter, [], 0⟩] scope pos) tr (.lst ((List.range N).map out)) := by
  refine Ev_comp (elt := elt) (px := px) (pos := pos) (ifs := []) ((List.range N).map out) (fun _ => tr) hi (src_range hN) (blockC_of B 0 hk) (by simp [rngInts]) (by rw [rngInts_len]; exact hN) (fun k e o he ho Lc => ?_) hs
  obtain ⟨hk, rfl⟩ := rngInts_get he
  simp [hk] at ho
  subst ho
  exact ⟨(fun _ h => nomatch h), Ev_pre (step k hk Lc) (cons_look hΓ)⟩
/-- over a made list -/
theorem Ev_compM {elt iter : Expr} {x : Str} {px pos : Pos} {scope : Scope} {N : Nat} {inp : Nat → D} (out : Nat → D) (Γ0 : List (Str × D))
    (hi : Ev C n env Γ tr iter tr (.lst ((List.range N).map inp))) (hN : N ≤ 1000000) (B : blockB scope env x = true) (hΓ : Wk Γ0 (visible scope env Γ))
    (step : ∀ k, k < N → ∀ Lc, Ev C n (cenvOf scope env Lc) ((x, inp k) :: Γ0) tr elt tr (out k))
    (hs : ∀ v, foldedSetIterable iter env v = pure v) :
    Ev C n env Γ tr (.ListComp elt [⟨.Name x px, iter, [], 0⟩] scope pos) tr (.lst ((List.range N).map out)) := by
  refine Ev_comp (elt := elt) (px := px) (pos := pos) (ifs := []) ((List.range N).map out) (fun _ => tr) hi (.inl rfl) (block_of B) (by simp) (by simpa using hN) (fun k e o he ho Lc => ?_) hs
  obtain ⟨hk, rfl⟩ := get_map he
  obtain ⟨_, rfl⟩ := get_map ho
  exact ⟨(fun _ h => nomatch h), Ev_pre (step k hk Lc) (cons_look hΓ)⟩
theorem Ev_compMC {elt iter : Expr} {x : Str} {px pos : Pos} {scope : Scope} {N : Nat} {inp : Nat → D} (out : Nat → D) (Γ0 : List (Str × D))
    (hi : Ev C n env Γ tr iter tr (.lst ((List.range N).map inp))) (hN : N ≤ 1000000) (B : blockC scope env x = true) (hk : ∀ L, (cellsFrom (L + 1) scope.names (clos env scope.names [])).lookup x = some (L + 1 + 0)) (hΓ : Wk Γ0 (visible scope env Γ))
    (step : ∀ k, k < N → ∀ Lc, Ev C n (cenvOf scope env Lc) ((x, inp k) :: Γ0) tr elt tr (out k))
    (hs : ∀ v, foldedSetIterable iter env v = pure v) :
    Ev C n env Γ tr (.ListComp elt [⟨.Name x px, iter, [], 0⟩] scope pos) tr (.lst ((List.range N).map out)) := by
  refine Ev_comp (elt := elt) (px := px) (pos := pos) (ifs := []) ((List.range N).map out) (fun _ => tr) hi (.inl rfl) (blockC_of B 0 hk) (by simp) (by simpa using hN) (fun k e o he ho Lc => ?_) hs
  obtain ⟨hk, rfl⟩ := get_map he
  obtain ⟨_, rfl⟩ := get_map ho
  exact ⟨(fun _ h => nomatch h), Ev_pre (step k hk Lc) (cons_look hΓ)⟩

/-- y = [..], the stores exchanged -/
theorem Ex_compRC {elt iter : Expr} {x y : Str} {px py pos pos2 : Pos} {scope : Scope} {N : Nat} (out : Nat → D) (Γ0 : List (Str × D)) {rest : List Stmt} {o : Out}
    (hi : Ev C n env Γ tr iter tr (.rng 0 N 1)) (hN : N ≤ 1000000) (B : blockC scope env x = true) (hk : ∀ L, (cellsFrom (L + 1) scope.names (clos env scope.names [])).lookup x = some (L + 1 + 0)) (hΓ : Wk Γ0 (visible scope env Γ))
    (step : ∀ k, k < N → ∀ Lc, Ev C n (cenvOf scope env Lc) ((x, .int k) :: Γ0) tr elt tr (out k))
    (hs : ∀ v, foldedSetIterable iter env v = pure v) (hky : storesB env y = true)
    (hsw : swapsWith (.ListComp elt [⟨.Name x px, iter, [], 0⟩] scope pos) (some (.Name y py)) pos2.line env = pure true)
    (k : Ex C n env ((y, .lst ((List.range N).map out)) :: Γ) tr rest o) :
    Ex C n env Γ tr (.Assign [.Name y py] (.ListComp elt [⟨.Name x px, iter, [], 0⟩] scope pos) pos2 :: rest) o := by
  refine Ex_cons (Ex1_assign_comp (elt := elt) (px := px) (py := py) (pos := pos) (pos2 := pos2) (ifs := []) ((List.range N).map out) (fun _ => tr) hi (src_range hN) (blockC_of B 0 hk) (by simp [rngInts]) (by rw [rngInts_len]; exact hN) (fun k e o he ho Lc => ?_) hs (stores_of hky) hsw) k
  obtain ⟨hk, rfl⟩ := rngInts_get he
  simp [hk] at ho
  subst ho
  exact ⟨(fun _ h => nomatch h), Ev_pre (step k hk Lc) (cons_look hΓ)⟩

def gvn (w : Option (Nat → Rat)) : Nat → Rat := match w with
  | none => fun _ => 1
  | some ws => ws
/-! the last stage: the F value -/
def h1 (ns : List Int) (h : Hd) : Hd := (pk ns h 8).1
def fin4 (ns : List Int) (h : Hd) : Hd := (pk ns (pk ns (pk ns (pk ns h 8).1 8).1 3).1 3).1
theorem frq_inv {k : Nat} (hk : 0 < k) : frq (1 / ((k : Int) : Rat)) = .tup [.int 1, .int k] := by
  have e : (1 : Rat) / ((k : Int) : Rat) = Rat.divInt 1 k := by
    rw [div_is, Rat.num_intCast, Rat.den_intCast]
    show Rat.divInt (1 * 1) (1 * k) = _
    rw [Int.one_mul, Int.one_mul]
  rw [e]
  unfold frq
  rw [Rat.num_divInt, Rat.den_divInt, if_neg (by omega), Int.sign_eq_one_of_pos (by omega)]
  simp
theorem Sz.inv {k : Nat} (hk : 0 < k) (h8 : k < 8) : Sz 3 (1 / ((k : Int) : Rat)) := by
  have h := Sz.div (Sz.one (b := 2) (by decide)) (Sz.int (i := k) (b := 3) (by show _ < 8; omega) (by decide))
  have e : (1 : Rat) / ((k : Int) : Rat) = Rat.divInt 1 k := by
    rw [div_is, Rat.num_intCast, Rat.den_intCast]
    show Rat.divInt (1 * 1) (1 * k) = _
    rw [Int.one_mul, Int.one_mul]
  rw [e]
  refine divInt_size ?_ ?_ (by decide)
  · decide
  · show _ < 8; omega
end


section
variable {C : Cx} {a : Addrs} {tr tr1 tr2 : List MObj} {n : Nat} {env : Env} {Γ : List (Str × D)}
theorem nat_ne {k : Nat} (hk : 0 < k) : ((k : Int) : Rat) ≠ 0 := fun h => by
  have := congrArg Rat.num h
  rw [Rat.num_intCast] at this
  have h2 : (k : Int) = 0 := this
  omega
theorem div_ne {x y : Rat} (hx : x ≠ 0) (hy : y ≠ 0) : x / y ≠ 0 := fun h => by
  have : x / y * y = 0 := by rw [h, Rat.zero_mul]
  rw [Rat.div_mul_cancel hy] at this
  exact hx this
theorem zero_div' (y : Rat) : (0 : Rat) / y = 0 := by rw [Rat.div_def, Rat.zero_mul]
theorem by_is {y : Rat} {l : Nat} (hl : 0 < l) (hy : y.num ≠ 0) : Rat.divInt ((y.den : Int) * l * (if 0 < y.num then 1 else -1)) (if 0 < y.num then y.num else -y.num) = ((l : Int) : Rat) / y := by
  rw [div_is, Rat.num_intCast, Rat.den_intCast]
  have e : ((1 : Nat) : Int) * y.num = y.num := Int.one_mul _
  rw [e]
  by_cases h : 0 < y.num
  · rw [if_pos h, if_pos h, Int.mul_one, Int.mul_comm]
  · rw [if_neg h, if_neg h, Int.mul_neg, Int.mul_one, Rat.neg_divInt_neg, Int.mul_comm]
theorem sign0 {x : Rat} {e : Nat} (he : 0 < e) : ((x / ((e : Int) : Rat)).num.sign == 0) = (x.num == 0) := by
  by_cases h : x = 0
  · subst h; rw [zero_div']; rfl
  · have h1 : (x / ((e : Int) : Rat)).num ≠ 0 := fun q => div_ne h (nat_ne he) (Rat.num_eq_zero.mp q)
    have h2 : x.num ≠ 0 := fun q => h (Rat.num_eq_zero.mp q)
    have h3 : (x / ((e : Int) : Rat)).num.sign ≠ 0 := fun q => h1 (Int.sign_eq_zero_iff_zero.mp q)
    rw [beq_eq_false_iff_ne.mpr h3, beq_eq_false_iff_ne.mpr h2]
theorem f_end {x y : Rat} {e l : Nat} (he : 0 < e) (hl : 0 < l) (hy : y ≠ 0) : x / ((e : Int) : Rat) / (y / ((l : Int) : Rat)) = x * (1 / ((e : Int) : Rat)) * (((l : Int) : Rat) / y) := by
  have h1 := nat_ne he
  have h2 := nat_ne hl
  generalize ((e : Int) : Rat) = e' at h1 ⊢
  generalize ((l : Int) : Rat) = l' at h2 ⊢
  grind
/-- the last lines: the two values and the counts are drawn -/
theorem law_f (G : Glob C a) {ns : List Int} {h : Hd} {qual : Str} {L : Addr} {code : Value} {x y : Rat} {e l : Nat} (hx : Sz 3 x) (hy : Sz 3 y) (he : 0 < e ∧ e < 8) (hl : l < 8) :
    Ex C 9 (fenv (fscope 44) qual L a.f_law code) [("late", .int l), ("early", .int e), ("two", frq y), ("one", frq x)] [handM ns h] ((fbody 44).drop 29) (.ret [handM ns h] (.bool true)) := by
  conv in (List.drop _ _) => whnf
  generalize [handM ns h] = T
  have hy0 : y.num = 0 → y = 0 := Rat.num_eq_zero.mp
  by_cases hl0 : l = 0
  · obtain ⟨i, ef⟩ := f_value_specN (C := C) (tr := T) G hx hy he hl0
    subst hl0
    refine Ex_assign (tr1 := T) (Ev_callN (by ktn_open) (by kernel_rfl) (by kernel_rfl) (by kernel_rfl) (by kernel_rfl) (by tb_rel) (Fn.mono ef (by decide))) (by kernel_rfl) (by kernel_rfl) ?_
    by_cases hy1 : y.num = 0
    · exact Ex_if_ret (tr1 := T) (Tt_or_true (by kst_p)) (Ex_return (Ev_or (b := true) (tr1 := T) (Ev_of (d := .bool (((0 : Nat) : Int) == 0)) (by ktr_rel) rfl) (fun _ => ⟨rfl, rfl⟩) fun h => by cases h))
    · exact Ex_if_ret (tr1 := T) (Tt_or_false (tr1 := T) (by kst_p) (Tt_of (b := (((0 : Nat) : Int) == 0)) (by kwd_rel) rfl)) (Ex_return (Ev_or (b := true) (tr1 := T) (Ev_of (d := .bool (((0 : Nat) : Int) == 0)) (by ktr_rel) rfl) (fun _ => ⟨rfl, rfl⟩) fun h => by cases h))
  · have hl1 : 0 < l := by omega
    have hlf : ((l : Int) == 0) = false := by simp; omega
    by_cases hy1 : y.num = 0
    · have hyz := hy0 hy1
      subst hyz
      have ef := f_value_specP (C := C) (tr := T) G hx hy he ⟨hl1, hl⟩ (d := infD (x / ((e : Int) : Rat)).num.sign) (by rw [zero_div']; exact div_spec0 G)
      refine Ex_assign (tr1 := T) (Ev_callN (by ktn_open) (by kernel_rfl) (by kernel_rfl) (by kernel_rfl) (by kernel_rfl) (by tb_rel) (Fn.mono ef (by decide))) (by kernel_rfl) (by kernel_rfl) ?_
      refine Ex_if_ret (tr1 := T) (Tt_or_true (Tt_of (b := ((0 : Rat).num == 0)) (by kwd_rel) rfl)) ?_
      refine Ex_return (Ev_or (b := false) (tr1 := T) (Ev_of (d := .bool ((l : Int) == 0)) (by ktr_rel) (by rw [hlf])) (fun h => by cases h) fun _ => ?_)
      refine Ev_and (b := true) (tr1 := T) (Ev_of (d := .bool ((0 : Int) == 0)) (by ktr_rel) rfl) (fun h => by cases h) fun _ => ?_
      refine Ev_of (d := .bool (((x / ((e : Int) : Rat)).num.sign == 0) == (x.num == 0))) (by ktr_rel) ?_
      rw [sign0 he.1]; simp
    · have hyz : y ≠ 0 := fun q => hy1 (by rw [q]; rfl)
      have s1 : Sz 6 (x / ((e : Int) : Rat)) := Sz.div hx (Sz.int (b := 3) (by show _ < 8; omega) (by decide))
      have s2 : Sz 6 (y / ((l : Int) : Rat)) := Sz.div hy (Sz.int (b := 3) (by show _ < 8; omega) (by decide))
      have ef := f_value_specP (C := C) (tr := T) G hx hy he ⟨hl1, hl⟩ (div_spec G s1 s2 (by decide) (div_ne hyz (nat_ne hl1)))
      refine Ex_assign (tr1 := T) (Ev_callN (by ktn_open) (by kernel_rfl) (by kernel_rfl) (by kernel_rfl) (by kernel_rfl) (by tb_rel) (Fn.mono ef (by decide))) (by kernel_rfl) (by kernel_rfl) ?_
      refine Ex_if_skip (tr1 := T) (Tt_or_false (tr1 := T) (by kst_p) (Tt_of (b := ((l : Int) == 0)) (by kwd_rel) hlf)) ?_
      have m1 : IntMulOk (y.den : Int) l := mulOk (b := 3) (c := 3) (by rw [Int.natAbs_natCast]; exact hy.2) (by rw [Int.natAbs_natCast]; exact hl) (by decide)
      have m2 : IntMulOk ((y.den : Int) * l) (if 0 < y.num then 1 else -1) := mulOk (b := 6) (c := 3) (by rw [Int.natAbs_mul]; exact mul_lt_pow hy.2 (show l < 2 ^ 3 from hl)) (by split <;> decide) (by decide)
      have d0 : (0 : Int) < (if 0 < y.num then y.num else -y.num) := by split <;> omega
      have el := low_spec (C := C) (tr := T) (x := (y.den : Int) * l * (if 0 < y.num then 1 else -1)) G d0
      rw [by_is hl1 hy1] at el
      refine Ex_assign (tr1 := T) (d := frq (((l : Int) : Rat) / y)) (Ev_callN (by ktn_open) (by kernel_rfl) (by kernel_rfl) (by kernel_rfl) (by kernel_rfl) (tr1 := T) (ds := [.int ((y.den : Int) * l * (if 0 < y.num then 1 else -1)), .int (if 0 < y.num then y.num else -y.num)]) (Evs_cons (tr1 := T) ?_ (Evs_cons (tr1 := T) ?_ Evs_nil (by kernel_rfl)) (by kernel_rfl)) (Fn.mono el (by decide))) (by kernel_rfl) (by kernel_rfl) ?_
      · refine Ev_bin (tr1 := T) (d1 := .int ((y.den : Int) * l)) (d2 := .int (if 0 < y.num then 1 else -1)) (by ktr_rel) ?_ (Op_mul m2)
        by_cases hp : 0 < y.num
        · refine Ev_ifexp (tr1 := T) (b := true) (by kst_p) ?_
          rw [if_pos hp]; simp only [if_true]; ktr_rel
        · refine Ev_ifexp (tr1 := T) (b := false) (by kst_p) ?_
          rw [if_neg hp]; simp only [Bool.false_eq_true, if_false]; ktr_rel
      · by_cases hp : 0 < y.num
        · refine Ev_ifexp (tr1 := T) (b := true) (by kst_p) ?_
          rw [if_pos hp]; simp only [if_true]; ktr_rel
        · refine Ev_ifexp (tr1 := T) (b := false) (by kst_p) ?_
          rw [if_neg hp]; simp only [Bool.false_eq_true, if_false]; ktr_rel
      have s3 := Sz.inv he.1 he.2
      have s4 : Sz 6 (((l : Int) : Rat) / y) := Sz.div (Sz.int (b := 3) (by show _ < 8; omega) (by decide)) hy
      have s5 := hx.mul s3
      have l1 := lmul_spec (C := C) (tr := T) G hx s3 (by decide)
      have l2 := lmul_spec (C := C) (tr := T) G s5 s4 (by decide)
      refine Ex_return (Ev_eqs (tr1 := T) (d1 := frq (x / ((e : Int) : Rat) / (y / ((l : Int) : Rat)))) (d2 := frq (x * (1 / ((e : Int) : Rat)) * (((l : Int) : Rat) / y))) (by ktr_rel) ?_ (by rw [f_end he.1 hl1 hyz]) plain_frq (by kernel_rfl))
      refine Ev_callN (by ktn_open) (by kernel_rfl) (by kernel_rfl) (by kernel_rfl) (by kernel_rfl) (tr1 := T) (ds := [frq (x * (1 / ((e : Int) : Rat))), frq (((l : Int) : Rat) / y)]) (Evs_cons (tr1 := T) ?_ (Evs_cons (tr1 := T) (by ktr_rel) Evs_nil (by kernel_rfl)) (by kernel_rfl)) (Fn.mono l2 (by decide))
      refine Ev_callN (by ktn_open) (by kernel_rfl) (by kernel_rfl) (by kernel_rfl) (by kernel_rfl) (tr1 := T) (ds := [frq x, frq (1 / ((e : Int) : Rat))]) (Evs_cons (tr1 := T) (by ktr_rel) (Evs_cons (tr1 := T) (Ev_of (d := .tup [.int 1, .int e]) (by ktr_rel) (frq_inv he.1).symm) Evs_nil (by kernel_rfl)) (by kernel_rfl)) (Fn.mono l1 (by decide))
theorem law_end (G : Glob C a) {ns : List Int} {h : Hd} (H : HdOk ns h) (hz : ns.length ≤ 63) {qual : Str} {L : Addr} {code : Value} {Γ : List (Str × D)} (w : Wk [("hand", .ptr 0)] Γ) :
    Ex C 9 (fenv (fscope 44) qual L a.f_law code) Γ [handM ns h] ((fbody 44).drop 25) (.ret [handM ns (fin4 ns h)] (.bool true)) := by
  refine Ex_pre (Γ1 := [("hand", .ptr 0)]) ?_ w.look
  unfold fin4
  have v1 := value_spec (C := C) G H hz
  have H1 := (pk_ok H (l := 8) (by decide)).1
  generalize (pk ns h 8).1 = g1 at v1 H1 ⊢
  have s1 := valQ_size (pk ns h 8).2
  generalize valQ (pk ns h 8).2 = x at v1 s1
  have v2 := value_spec (C := C) G H1 hz
  have H2 := (pk_ok H1 (l := 8) (by decide)).1
  generalize (pk ns g1 8).1 = g2 at v2 H2 ⊢
  have s2 := valQ_size (pk ns g1 8).2
  generalize valQ (pk ns g1 8).2 = y at v2 s2
  have v3 : Fn C 1 (.ref a.f_law_pick) [handM ns g2] [.ptr 0, .int 3] _ _ := pick_spec G H2 hz (l := 3) (by decide)
  obtain ⟨H3, k3⟩ := pk_ok H2 (l := 3) (by decide)
  generalize (pk ns g2 3).1 = g3 at v3 H3 ⊢
  generalize (pk ns g2 3).2 = e at v3 k3
  have v4 : Fn C 1 (.ref a.f_law_pick) [handM ns g3] [.ptr 0, .int 3] _ _ := pick_spec G H3 hz (l := 3) (by decide)
  obtain ⟨H4, k4⟩ := pk_ok H3 (l := 3) (by decide)
  generalize (pk ns g3 3).1 = g4 at v4 H4 ⊢
  generalize (pk ns g3 3).2 = l at v4 k4
  conv in (List.drop _ _) => whnf
  refine Ex_assign (tr1 := [handM ns g1]) (d := frq x) (Ev_callN (by ktn_open) (by kernel_rfl) (by kernel_rfl) (by kernel_rfl) (by kernel_rfl) (by tb_rel) (Fn.mono v1 (by decide))) (by kernel_rfl) (by kernel_rfl) ?_
  refine Ex_assign (tr1 := [handM ns g2]) (d := frq y) (Ev_callN (by ktn_open) (by kernel_rfl) (by kernel_rfl) (by kernel_rfl) (by kernel_rfl) (by tb_rel) (Fn.mono v2 (by decide))) (by kernel_rfl) (by kernel_rfl) ?_
  refine Ex_assign (tr1 := [handM ns g3]) (d := .int (1 + e : Nat)) (Ev_of (d := .int (1 + (e : Int))) (Ev_bin (tr1 := [handM ns g2]) (d1 := .int 1) (d2 := .int (e : Nat)) (by ktr_rel) (Ev_callN (by ktn_open) (by kernel_rfl) (by kernel_rfl) (by kernel_rfl) (by kernel_rfl) (by tb_rel) (Fn.mono v3 (by decide))) Op_add) (congrArg D.int (by omega))) (by kernel_rfl) (by kernel_rfl) ?_
  refine Ex_assign (tr1 := [handM ns g4]) (d := .int (l : Nat)) (Ev_callN (by ktn_open) (by kernel_rfl) (by kernel_rfl) (by kernel_rfl) (by kernel_rfl) (by tb_rel) (Fn.mono v4 (by decide))) (by kernel_rfl) (by kernel_rfl) ?_
  exact Ex_pre (law_f (e := 1 + e) (l := l) G s1 s2 ⟨by omega, by omega⟩ (by omega)) (Wk.look (by kwd_less))
end


section
variable {C : Cx} {a : Addrs} {tr tr1 tr2 : List MObj} {n : Nat} {env : Env} {Γ : List (Str × D)}
theorem cov_is {x l : Rat} {k : Nat} : x * (l / ((k : Int) : Rat)) = x * l * (1 / ((k : Int) : Rat)) := by
  rw [Rat.div_def, Rat.div_def, Rat.one_mul, Rat.mul_assoc]
/-- covariance is held against its word -/
theorem law_D (G : Glob C a) {T : List MObj} {qual : Str} {L : Addr} {code : Value} {m : Nat} {w : Option (Nat → Rat)} {S : GS} {co : List D} {st fi rs : Nat → Rat} (hm : m ≤ 4) (hw : Wsz 2 m w) (hrs : Vsz 26757 m rs) (hr : S.r ≤ 3) (H : GsOk m S) (hco : D.lims 0 co = true) (p9 : S.r ≤ m) {o : Out}
    (K : ∀ Γ, Wk [("hand", .ptr 0)] Γ → Ex C 9 (fenv (fscope 44) qual L a.f_law code) Γ T ((fbody 44).drop 25) o) {Γ : List (Str × D)} (wk : Wk [("many_used", .int S.r), ("rotated", matD S.r S.r (cv S)), ("found", fitD a.Cl m w S co st fi rs), ("hand", .ptr 0)] Γ) :
    Ex C 9 (fenv (fscope 44) qual L a.f_law code) Γ T ((fbody 44).drop 22) o := by
  refine Ex_pre (Γ1 := [("many_used", .int S.r), ("rotated", matD S.r S.r (cv S)), ("found", fitD a.Cl m w S co st fi rs), ("hand", .ptr 0)]) ?_ wk.look
  have e0 := rss_spec (C := C) (tr := T) (S := S) (co := co) (st := st) (fi := fi) G hm hw hrs
  have sL := (hw.wt hrs).dt4 hm hrs
  have hcv := cv_size hr H
  conv in (List.drop 22 _) => whnf
  by_cases hd : 0 < (m : Int) - S.r
  · have e1 := covariance_spec (C := C) (tr := T) (S := S) (co := co) (st := st) (fi := fi) G hm hw hrs hr H hco hd
    obtain ⟨k, hk⟩ : ∃ k : Nat, (m : Int) - S.r = k := ⟨m - S.r, by omega⟩
    have hk0 : 0 < k := by omega
    have hk8 : k < 8 := by omega
    have eq : dfQ m S = ((k : Int) : Rat) := by unfold dfQ; rw [hk]
    rw [eq] at e1
    generalize dt m (wt w rs) rs = l at e0 e1 sL
    have hFd : fitD a.Cl m w S co st fi rs = .obj a.Cl [("pivots", natD S.r S.pv), ("bases", matD S.r m S.e), ("norms", vecD S.r S.nm), ("shares", .lst ((List.range S.r).map fun i => vecD i (S.sh i))), ("steps", vecD S.r st), ("coefficients", .lst co), ("fitted", vecD m fi), ("residuals", vecD m rs), ("weights", wD m w), ("rank", .int S.r), ("df", .int k)] := by unfold fitD; rw [hk]
    generalize fitD a.Cl m w S co st fi rs = F at e0 e1 hFd ⊢
    generalize hV : cv S = V at e1 hcv ⊢
    refine Ex_assign (tr1 := T) (d := frq l) (Ev_callN (by ktn_open) (by kernel_rfl) (by kernel_rfl) (by kernel_rfl) (by kernel_rfl) (by tb_rel) (Fn.mono e0 (by decide))) (by kernel_rfl) (by kernel_rfl) ?_
    refine Ex_assign (tr1 := T) (Ev_callN (by ktn_open) (by kernel_rfl) (by kernel_rfl) (by kernel_rfl) (by kernel_rfl) (by tb_rel) (Fn.mono e1 (by decide))) (by kernel_rfl) (by kernel_rfl) ?_
    refine Ex_forR (tr1 := T) (N := S.r) (by ktr_rel) (by omega) (fun _ => [("scaled_rows", matD S.r S.r fun i j => V i j * (l / ((k : Int) : Rat))), ("left", frq l), ("many_used", .int S.r), ("rotated", matD S.r S.r V), ("found", F), ("hand", .ptr 0)]) (fun _ => T) rfl (by kwd_less) (fun i hi => ?_) (by kernel_rfl) (fun _ => rfl) (K _ (by kwd_less))
    refine Ex_forR (tr1 := T) (N := S.r) (by ktr_rel) (by omega) (fun _ => [("up", .int i), ("scaled_rows", matD S.r S.r fun i j => V i j * (l / ((k : Int) : Rat))), ("left", frq l), ("many_used", .int S.r), ("rotated", matD S.r S.r V), ("found", F), ("hand", .ptr 0)]) (fun _ => T) rfl (by kwd_less) (fun j hj => ?_) (by kernel_rfl) (fun _ => rfl) (Ex_end (by kwd_less))
    have s1 := hcv i j
    have s2 := Sz.inv hk0 hk8
    have s3 := s1.mul sL
    have l2 := lmul_spec (C := C) (tr := T) G s3 s2 (by decide)
    refine Ex_if_next (tr1 := T) (tr2 := T) (Γ1 := [("up", .int i), ("scaled_rows", matD S.r S.r fun i j => V i j * (l / ((k : Int) : Rat))), ("left", frq l), ("many_used", .int S.r), ("rotated", matD S.r S.r V), ("found", F), ("hand", .ptr 0)]) (Tt_of (b := decide ((0 : Int) < k)) (by subst hFd; kwd_rel) (by simp; omega)) ?_ (Ex_end (by kwd_less))
    refine Ex_assign (tr1 := T) (d := frq (V i j * l * (1 / ((k : Int) : Rat)))) ?_ (by kernel_rfl) (by kernel_rfl) ?_
    · refine Ev_callN (by ktn_open) (by kernel_rfl) (by kernel_rfl) (by kernel_rfl) (by kernel_rfl) (tr1 := T) (ds := [frq (V i j * l), frq (1 / ((k : Int) : Rat))]) (Evs_cons (tr1 := T) (by ktr_rel) (Evs_cons (tr1 := T) (Ev_of (d := .tup [.int 1, .int k]) (by subst hFd; ktr_rel) (frq_inv hk0).symm) Evs_nil (by kernel_rfl)) (by kernel_rfl)) (Fn.mono l2 (by decide))
    · refine Ex_if_skip (tr1 := T) (Tt_same (tr1 := T) (d1 := frq (V i j * (l / ((k : Int) : Rat)))) (by ktr_rel) (by ktr_rel) (by rw [cov_is]) plain_frq (by kernel_rfl)) (Ex_end (by kwd_less))
  · have hd0 : (m : Int) - S.r = 0 := by omega
    obtain ⟨q, e1⟩ := covariance_spec0 (C := C) (tr := T) (S := S) (co := co) (st := st) (fi := fi) G hm hw hrs hr H hco hd0
    have hFd : fitD a.Cl m w S co st fi rs = .obj a.Cl [("pivots", natD S.r S.pv), ("bases", matD S.r m S.e), ("norms", vecD S.r S.nm), ("shares", .lst ((List.range S.r).map fun i => vecD i (S.sh i))), ("steps", vecD S.r st), ("coefficients", .lst co), ("fitted", vecD m fi), ("residuals", vecD m rs), ("weights", wD m w), ("rank", .int S.r), ("df", .int 0)] := by unfold fitD; rw [hd0]
    generalize fitD a.Cl m w S co st fi rs = F at e0 e1 hFd ⊢
    generalize dt m (wt w rs) rs = l at e0
    refine Ex_assign (tr1 := T) (d := frq l) (Ev_callN (by ktn_open) (by kernel_rfl) (by kernel_rfl) (by kernel_rfl) (by kernel_rfl) (by tb_rel) (Fn.mono e0 (by decide))) (by kernel_rfl) (by kernel_rfl) ?_
    refine Ex_assign (tr1 := T) (Ev_callN (by ktn_open) (by kernel_rfl) (by kernel_rfl) (by kernel_rfl) (by kernel_rfl) (by tb_rel) (Fn.mono e1 (by decide))) (by kernel_rfl) (by kernel_rfl) ?_
    refine Ex_forR (tr1 := T) (N := S.r) (by ktr_rel) (by omega) (fun _ => [("scaled_rows", .lst ((List.range S.r).map fun i => .lst ((List.range S.r).map fun j => infD (q i j)))), ("many_used", .int S.r), ("found", F), ("hand", .ptr 0)]) (fun _ => T) rfl (by kwd_less) (fun i hi => ?_) (by kernel_rfl) (fun _ => rfl) (K _ (by kwd_less))
    refine Ex_forR (tr1 := T) (N := S.r) (by ktr_rel) (by omega) (fun _ => [("up", .int i), ("scaled_rows", .lst ((List.range S.r).map fun i => .lst ((List.range S.r).map fun j => infD (q i j)))), ("many_used", .int S.r), ("found", F), ("hand", .ptr 0)]) (fun _ => T) rfl (by kwd_less) (fun j hj => ?_) (by kernel_rfl) (fun _ => rfl) (Ex_end (by kwd_less))
    refine Ex_if_else (tr1 := T) (tr2 := T) (Γ1 := [("up", .int i), ("scaled_rows", .lst ((List.range S.r).map fun i => .lst ((List.range S.r).map fun j => infD (q i j)))), ("many_used", .int S.r), ("found", F), ("hand", .ptr 0)]) (Tt_of (b := decide ((0 : Int) < 0)) (by subst hFd; kwd_rel) rfl) ?_ (Ex_end (by kwd_less))
    exact Ex_if_skip (tr1 := T) (Tt_of (b := ((0 : Int) != 0)) (by kwd_rel) rfl) (Ex_end (by kwd_less))
end


section
variable {C : Cx} {a : Addrs} {tr tr1 tr2 : List MObj} {n : Nat} {env : Env} {Γ : List (Str × D)}
def crs (m : Nat) (w : Option (Nat → Rat)) (U : Nat → Nat → Rat) (i j : Nat) : Rat := dt m (fun k => U i k * gvn w k) (U j)
theorem gvn_size {m : Nat} {w : Option (Nat → Rat)} (hw : Wsz 2 m w) : Vsz 2 m (gvn w) := by
  cases w with
  | none => exact fun _ _ => Sz.one (by decide)
  | some ws => exact hw
/-- unscaled_covariance is held against the crossings -/
theorem law_C (G : Glob C a) {T : List MObj} {qual : Str} {L : Addr} {code : Value} {m c : Nat} {w : Option (Nat → Rat)} {M : Nat → Nat → Rat} {S : GS} {co : List D} {st fi rs : Nat → Rat} (hm : m ≤ 4) (hc : c ≤ 3) (hw : Wsz 2 m w) (hM : ∀ i, i < c → Vsz 3 m (M i)) (hr : S.r ≤ 3) (H : GsOk m S) (hco : D.lims 0 co = true)
    (hpv : ∀ i, i < S.r → S.pv i < c) (p7 : ∀ i, i < S.r → ∀ j, j < S.r → dt S.r (cv S i) (fun t => crs m w (fun i => M (S.pv i)) t j) = if i = j then 1 else 0) {o : Out}
    (K : ∀ Γ, Wk [("many_used", .int S.r), ("rotated", matD S.r S.r (cv S)), ("found", fitD a.Cl m w S co st fi rs), ("hand", .ptr 0)] Γ → Ex C 9 (fenv (fscope 44) qual L a.f_law code) Γ T ((fbody 44).drop 22) o) {Γ : List (Str × D)}
    (wk : Wk [("columns", matD c m M), ("many", .int m), ("given", vecD m (gvn w)), ("found", fitD a.Cl m w S co st fi rs), ("hand", .ptr 0)] Γ) :
    Ex C 9 (fenv (fscope 44) qual L a.f_law code) Γ T ((fbody 44).drop 17) o := by
  refine Ex_pre (Γ1 := [("columns", matD c m M), ("many", .int m), ("given", vecD m (gvn w)), ("found", fitD a.Cl m w S co st fi rs), ("hand", .ptr 0)]) ?_ wk.look
  have e1 := unscaled_spec (C := C) (tr := T) (w := w) (co := co) (st := st) (fi := fi) (rs := rs) G hr H hco
  have hcv := cv_size hr H
  have hU : ∀ i, i < S.r → Vsz 3 m (M (S.pv i)) := fun i hi => hM _ (hpv i hi)
  have hg := gvn_size hw
  have hm' : m ≤ 1000 := by omega
  have hr' : S.r ≤ 1000 := by omega
  have hX : ∀ i, i < S.r → Vsz 40 S.r (crs m w (fun i => M (S.pv i)) i) := fun i hi j hj => (Vsz.dt4 (b := 5) (c := 3) hm (fun k hk => (hU i hi k hk).mul (hg k hk)) (hU j hj)).le (by decide)
  conv in (List.drop 17 _) => whnf
  have hFd : fitD a.Cl m w S co st fi rs = .obj a.Cl [("pivots", natD S.r S.pv), ("bases", matD S.r m S.e), ("norms", vecD S.r S.nm), ("shares", .lst ((List.range S.r).map fun i => vecD i (S.sh i))), ("steps", vecD S.r st), ("coefficients", .lst co), ("fitted", vecD m fi), ("residuals", vecD m rs), ("weights", wD m w), ("rank", .int S.r), ("df", .int ((m : Int) - S.r))] := rfl
  generalize fitD a.Cl m w S co st fi rs = F at e1 hFd K ⊢
  generalize cv S = V at e1 hcv p7 K ⊢
  refine Ex_assign (tr1 := T) (d := matD S.r m fun i => M (S.pv i)) ?_ (by kernel_rfl) (by kernel_rfl) ?_
  · refine Ev_of (Ev_compM (N := S.r) (inp := fun i => .int (S.pv i : Nat)) (fun i => vecD m (M (S.pv i))) [("columns", matD c m M)] ?_ (by omega) (by kernel_rfl) (by kwd_less) (fun i hi Lc => ?_) (fun _ => rfl)) rfl
    · show Ev _ _ _ _ _ _ _ (natD S.r S.pv)
      subst hFd; ktr_rel
    · have := hpv i hi
      ktr_rel
  have hXd : ∀ i j, dt m (fun k => M (S.pv i) k * gvn w k) (M (S.pv j)) = crs m w (fun i => M (S.pv i)) i j := fun _ _ => rfl
  generalize crs m w (fun i => M (S.pv i)) = X at hX p7 hXd
  generalize gvn w = gv at hg hXd ⊢
  refine Ex_assign (tr1 := T) (d := matD S.r S.r X) ?_ (by kernel_rfl) (by kernel_rfl) ?_
  · refine Ev_of (Ev_compMC (N := S.r) (inp := fun i => vecD m (M (S.pv i))) (fun i => vecD S.r (X i)) [("used", matD S.r m fun i => M (S.pv i)), ("many", .int m), ("given", vecD m gv)] ?_ (by omega) (by kernel_rfl) (fun _ => by kernel_rfl) (by kwd_less) (fun i hi Lc => ?_) (fun _ => rfl)) rfl
    · show Ev _ _ _ _ _ _ _ (matD S.r m fun i => M (S.pv i))
      ktr_rel
    · refine Ev_of (Ev_compM (N := S.r) (inp := fun i => vecD m (M (S.pv i))) (fun j => frq (X i j)) [("one", vecD m (M (S.pv i))), ("many", .int m), ("given", vecD m gv)] ?_ (by omega) (by kernel_rfl) (by kwd_less) (fun j hj Lc2 => ?_) (fun _ => rfl)) rfl
      · show Ev _ _ _ _ _ _ _ (matD S.r m fun i => M (S.pv i))
        ktr_rel
      · have hui := hU i hi
        have huj := hU j hj
        have hl := ldot_spec (C := C) (tr := T) G hm (b := 5) (c := 3) (u := fun k => M (S.pv i) k * gv k) (v := M (S.pv j)) (fun k hk => (hui k hk).mul (hg k hk)) huj (by decide)
        rw [← hXd]
        refine Ev_callN (by ktn_open) (by kernel_rfl) (by kernel_rfl) (by kernel_rfl) (by kernel_rfl) (tr1 := T) (ds := [vecD m (fun k => M (S.pv i) k * gv k), vecD m (M (S.pv j))]) (Evs_cons (tr1 := T) ?_ (Evs_cons (tr1 := T) (by ktr_rel) Evs_nil (by kernel_rfl)) (by kernel_rfl)) (Fn.mono hl (by decide))
        refine Ev_of (Ev_compR (fun k => frq (M (S.pv i) k * gv k)) (fun _ => T) [("one", vecD m (M (S.pv i))), ("given", vecD m gv)] ?_ (show m ≤ 1000000 by omega) (by kernel_rfl) (by kwd_less) (fun k hk Lc => ?_) (fun _ => rfl)) rfl
        · ktr_rel
        · have g1 := hui k hk
          have g2 := hg k hk
          ktr_rel
  refine Ex_assign (tr1 := T) (Ev_callN (by ktn_open) (by kernel_rfl) (by kernel_rfl) (by kernel_rfl) (by kernel_rfl) (by tb_rel) (Fn.mono e1 (by decide))) (by kernel_rfl) (by kernel_rfl) ?_
  refine Ex_assign (tr1 := T) (d := .int S.r) (by ktr_rel) (by kernel_rfl) (by kernel_rfl) ?_
  refine Ex_forR (tr1 := T) (N := S.r) (by ktr_rel) (by omega) (fun _ => [("many_used", .int S.r), ("rotated", matD S.r S.r V), ("crossings", matD S.r S.r X), ("found", F), ("hand", .ptr 0)]) (fun _ => T) rfl (by kwd_less) (fun i hi => ?_) (by kernel_rfl) (fun _ => rfl) (K _ (by kwd_less))
  refine Ex_compRC (N := S.r) (fun j => frq (dt S.r (V i) (fun t => X t j))) [("up", .int i), ("rotated", matD S.r S.r V), ("crossings", matD S.r S.r X)] (by ktr_rel) (by omega) (by kernel_rfl) (fun _ => by kernel_rfl) (by kwd_less) (fun j hj Lc => ?_) (fun _ => rfl) (by kernel_rfl) (by kernel_rfl) ?_
  · have hl := ldot_spec (C := C) (tr := T) G (m := S.r) (by omega) (b := 2200000) (c := 40) (u := V i) (v := fun t => X t j) (fun k hk => hcv i k) (fun k hk => hX k hk j hj) (by decide)
    refine Ev_callN (by ktn_open) (by kernel_rfl) (by kernel_rfl) (by kernel_rfl) (by kernel_rfl) (tr1 := T) (ds := [vecD S.r (V i), vecD S.r (fun t => X t j)]) (Evs_cons (tr1 := T) (by ktr_rel) (Evs_cons (tr1 := T) ?_ Evs_nil (by kernel_rfl)) (by kernel_rfl)) (Fn.mono hl (by decide))
    refine Ev_of (Ev_compM (N := S.r) (inp := fun t => vecD S.r (X t)) (fun t => frq (X t j)) [("down", .int j)] ?_ (by omega) (by kernel_rfl) (by kwd_less) (fun t ht Lc2 => ?_) (fun _ => rfl)) rfl
    · show Ev _ _ _ _ _ _ _ (matD S.r S.r X)
      ktr_rel
    · ktr_rel
  · refine Ex_if_skip (tr1 := T) (Tt_same (tr1 := T) (d1 := vecD S.r fun j => dt S.r (V i) (fun t => X t j)) (d2 := vecD S.r fun j => if i = j then 1 else 0) (by show Ev _ _ _ (_ :: _) _ _ _ (D.lst _); ktr_rel) ?_ (vec_congr fun j hj => p7 i hi j hj) plain_vec (by kernel_rfl)) (Ex_end (by kwd_less))
    refine Ev_of (Ev_compR (fun j => frq (if i = j then 1 else 0)) (fun _ => T) [("up", .int i)] (by ktr_rel) (show S.r ≤ 1000000 by omega) (by kernel_rfl) (by kwd_less) (fun j hj Lc => ?_) (fun _ => rfl)) rfl
    refine Ev_of (d := .tup [.int (if i = j then 1 else 0), .int 1]) (Ev_tuple (Evs_cons (tr1 := T) ?_ (Evs_cons (tr1 := T) (by ktr_rel) Evs_nil (by kernel_rfl)) (by kernel_rfl)) (by show 2 ≤ 1000; omega)) (by split <;> rfl)
    by_cases hij : i = j
    · refine Ev_ifexp (tr1 := T) (b := true) (Tt_of (by kwd_rel) (by simp [hij])) ?_
      rw [if_pos hij]; simp only [if_true]; ktr_rel
    · refine Ev_ifexp (tr1 := T) (b := false) (Tt_of (by kwd_rel) (by simp; omega)) ?_
      rw [if_neg hij]; simp only [Bool.false_eq_true, if_false]; ktr_rel
end


section
variable {C : Cx} {a : Addrs} {tr tr1 tr2 : List MObj} {n : Nat} {env : Env} {Γ : List (Str × D)}
/-- the trace, the leverages, the symmetry -/
theorem law_B (G : Glob C a) {T : List MObj} {qual : Str} {L : Addr} {code : Value} {m c : Nat} {w : Option (Nat → Rat)} {M : Nat → Nat → Rat} {gv : Nat → Rat} {S : GS} {co : List D} {st fi rs : Nat → Rat} {Hm : Nat → Nat → Rat} (hm : m ≤ 4) (hw : Wsz 2 m w) (hr : S.r ≤ 3) (H : GsOk m S) (hco : D.lims 0 co = true)
    (hH : ∀ i, i < m → Vsz 45000 m (Hm i)) (p4 : ps (fun k => Hm k k) m = ((S.r : Int) : Rat)) (p5 : ∀ k, k < m → wt w (fun i => lvp S i S.r) k = Hm k k) (p6 : w = none → ∀ i, i < m → ∀ j, j < m → Hm i j = Hm j i) {o : Out}
    (K : ∀ Γ, Wk [("columns", matD c m M), ("many", .int m), ("given", vecD m gv), ("found", fitD a.Cl m w S co st fi rs), ("hand", .ptr 0)] Γ → Ex C 9 (fenv (fscope 44) qual L a.f_law code) Γ T ((fbody 44).drop 17) o) {Γ : List (Str × D)}
    (wk : Wk [("rows", matD m m Hm), ("weights", wD m w), ("columns", matD c m M), ("many", .int m), ("given", vecD m gv), ("found", fitD a.Cl m w S co st fi rs), ("hand", .ptr 0)] Γ) :
    Ex C 9 (fenv (fscope 44) qual L a.f_law code) Γ T ((fbody 44).drop 13) o := by
  refine Ex_pre (Γ1 := [("rows", matD m m Hm), ("weights", wD m w), ("columns", matD c m M), ("many", .int m), ("given", vecD m gv), ("found", fitD a.Cl m w S co st fi rs), ("hand", .ptr 0)]) ?_ wk.look
  have e1 := leverages_spec (C := C) (tr := T) (w := w) (co := co) (st := st) (fi := fi) (rs := rs) G hm hw H hr hco
  rw [vec_congr p5] at e1
  have hm' : m ≤ 1000 := by omega
  conv in (List.drop 13 _) => whnf
  have hFd : fitD a.Cl m w S co st fi rs = .obj a.Cl [("pivots", natD S.r S.pv), ("bases", matD S.r m S.e), ("norms", vecD S.r S.nm), ("shares", .lst ((List.range S.r).map fun i => vecD i (S.sh i))), ("steps", vecD S.r st), ("coefficients", .lst co), ("fitted", vecD m fi), ("residuals", vecD m rs), ("weights", wD m w), ("rank", .int S.r), ("df", .int ((m : Int) - S.r))] := rfl
  generalize fitD a.Cl m w S co st fi rs = F at e1 hFd K ⊢
  refine Ex_assign (tr1 := T) (d := frq 0) (Ev_of (d := .tup [.int 0, .int 1]) (by ktr_rel) rfl) (by kernel_rfl) (by kernel_rfl) ?_
  have hps : ∀ k, k ≤ m → Sz 300000 (ps (fun k => Hm k k) k) := fun k hk => (ps_size (fun k hk => hH k hk k hk) k hk).le (by
    have := Nat.mul_le_mul_right (45000 + 1) (show k ≤ 4 by omega)
    omega)
  refine Ex_forR (tr1 := T) (N := m) (by ktr_rel) (by omega) (fun k => [("total", frq (ps (fun k => Hm k k) k)), ("rows", matD m m Hm), ("weights", wD m w), ("columns", matD c m M), ("many", .int m), ("given", vecD m gv), ("found", F), ("hand", .ptr 0)]) (fun _ => T) rfl (by kwd_less) (fun k hk => ?_) (by kernel_rfl) (fun _ => rfl) ?_
  · have s1 := hps k (by omega)
    have s2 := hH k hk k hk
    refine Ex_assign (tr1 := T) (d := frq (ps (fun k => Hm k k) (k + 1))) ?_ (by kernel_rfl) (by kernel_rfl) (Ex_end (by kwd_less))
    show Ev _ _ _ _ _ _ _ (frq (ps (fun k => Hm k k) k + Hm k k))
    ktr_rel
  rw [p4]
  refine Ex_if_skip (tr1 := T) (Tt_or_false (tr1 := T) (Tt_same (tr1 := T) (d2 := .tup [.int S.r, .int 1]) (by ktr_rel) (by subst hFd; ktr_rel) (frq_int _) (plain_of (k := 1) (dd_frq (q := ((S.r : Int) : Rat))) (by decide)) (by kernel_rfl)) (Tt_same (tr1 := T) (d1 := vecD m fun k => Hm k k) (d2 := vecD m fun k => Hm k k) ?_ ?_ rfl plain_vec (by kernel_rfl))) ?_
  · refine Ev_callN (by ktn_open) (by kernel_rfl) (by kernel_rfl) (by kernel_rfl) (by kernel_rfl) (tr1 := T) (ds := [vecD m fun k => Hm k k]) (Evs_cons (tr1 := T) ?_ Evs_nil (by kernel_rfl)) (Fn_listV hm')
    exact Ev_callN (by ktn_open) (by kernel_rfl) (by kernel_rfl) (by kernel_rfl) (by kernel_rfl) (by tb_rel) (Fn.mono e1 (by decide))
  · refine Ev_of (Ev_compR (fun k => frq (Hm k k)) (fun _ => T) [("rows", matD m m Hm)] (by ktr_rel) (show m ≤ 1000000 by omega) (by kernel_rfl) (by kwd_less) (fun k hk Lc => ?_) (fun _ => rfl)) rfl
    ktr_rel
  have last : Ex C 9 (fenv (fscope 44) qual L a.f_law code) [("total", frq ((S.r : Int) : Rat)), ("rows", matD m m Hm), ("weights", wD m w), ("columns", matD c m M), ("many", .int m), ("given", vecD m gv), ("found", F), ("hand", .ptr 0)] T ((fbody 44).drop 17) o := K _ (by kwd_less)
  cases w with
  | some ws => exact Ex_if_skip (tr1 := T) (Tt_and_false (by kst_p)) last
  | none =>
    have p := p6 rfl
    refine Ex_if_skip (tr1 := T) (Tt_and_true (tr1 := T) (Tt_of (by kwd_rel) rfl) (Tt_same (tr1 := T) (d1 := matD m m fun k t => Hm t k) (d2 := matD m m Hm) ?_ ?_ (mat_congr fun i hi j hj => p j hj i hi) plain_mat (by kernel_rfl))) last
    · refine Ev_of (Ev_compRC (N := m) (fun k => vecD m fun t => Hm t k) [("rows", matD m m Hm)] (by ktr_rel) (by omega) (by kernel_rfl) (fun _ => by kernel_rfl) (by kwd_less) (fun k hk Lc => ?_) (fun _ => rfl)) rfl
      refine Ev_of (Ev_compM (N := m) (inp := fun t => vecD m (Hm t)) (fun t => frq (Hm t k)) [("k", .int k)] ?_ (by omega) (by kernel_rfl) (by kwd_less) (fun t ht Lc2 => ?_) (fun _ => rfl)) rfl
      · show Ev _ _ _ _ _ _ _ (matD m m Hm)
        ktr_rel
      · ktr_rel
    · refine Ev_of (Ev_compM (N := m) (inp := fun t => vecD m (Hm t)) (fun t => vecD m (Hm t)) [] ?_ (by omega) (by kernel_rfl) (by kwd_less) (fun t ht Lc2 => ?_) (fun _ => rfl)) rfl
      · show Ev _ _ _ _ _ _ _ (matD m m Hm)
        ktr_rel
      · ktr_rel
end


section
variable {C : Cx} {a : Addrs} {tr tr1 tr2 : List MObj} {n : Nat} {env : Env} {Γ : List (Str × D)}
/-- the fit, the hat, its square -/
theorem law_A (G : Glob C a) {T : List MObj} {qual : Str} {L : Addr} {code : Value} {m c : Nat} {w : Option (Nat → Rat)} {M : Nat → Nat → Rat} {y : Nat → Rat} {S : GS} {co : List D} {st fi rs : Nat → Rat} {Hm : Nat → Nat → Rat} (hm : m ≤ 4) (hc : c ≤ 3) (hM : ∀ i, i < c → Vsz 3 m (M i)) (hy : Vsz 3 m y)
    (ef : Fn C 7 (.ref a.f_fit) T [matD c m M, vecD m y, wD m w] T (fitD a.Cl m w S co st fi rs)) (eh : Fn C 6 (.ref a.f_hat_rows) T [fitD a.Cl m w S co st fi rs, .int m] T (matD m m Hm))
    (hH : ∀ i, i < m → Vsz 45000 m (Hm i)) (p1 : ∀ i, i < m → dt m (Hm i) y = fi i) (p2 : ∀ k, k < c → ∀ i, i < m → dt m (Hm i) (M k) = M k i) (p3 : ∀ i, i < m → ∀ j, j < m → Hm i j = dt m (Hm i) (fun t => Hm t j)) {o : Out}
    (K : ∀ Γ, Wk [("rows", matD m m Hm), ("weights", wD m w), ("columns", matD c m M), ("many", .int m), ("given", vecD m (gvn w)), ("found", fitD a.Cl m w S co st fi rs), ("hand", .ptr 0)] Γ → Ex C 9 (fenv (fscope 44) qual L a.f_law code) Γ T ((fbody 44).drop 13) o) {Γ : List (Str × D)}
    (wk : Wk [("columns", matD c m M), ("y", vecD m y), ("weights", wD m w), ("many", .int m), ("hand", .ptr 0)] Γ) :
    Ex C 9 (fenv (fscope 44) qual L a.f_law code) Γ T ((fbody 44).drop 7) o := by
  refine Ex_pre (Γ1 := [("columns", matD c m M), ("y", vecD m y), ("weights", wD m w), ("many", .int m), ("hand", .ptr 0)]) ?_ wk.look
  have hm' : m ≤ 1000 := by omega
  have hc' : c ≤ 1000 := by omega
  conv in (List.drop 7 _) => whnf
  have hFd : fitD a.Cl m w S co st fi rs = .obj a.Cl [("pivots", natD S.r S.pv), ("bases", matD S.r m S.e), ("norms", vecD S.r S.nm), ("shares", .lst ((List.range S.r).map fun i => vecD i (S.sh i))), ("steps", vecD S.r st), ("coefficients", .lst co), ("fitted", vecD m fi), ("residuals", vecD m rs), ("weights", wD m w), ("rank", .int S.r), ("df", .int ((m : Int) - S.r))] := rfl
  generalize fitD a.Cl m w S co st fi rs = F at ef eh hFd K ⊢
  refine Ex_assign (tr1 := T) (d := vecD m (gvn w)) ?_ (by kernel_rfl) (by kernel_rfl) ?_
  · cases w with
    | none =>
      refine Ev_ifexp (tr1 := T) (b := true) (Tt_of (by kwd_rel) rfl) ?_
      simp only [if_true]
      exact Ev_of (Ev_rep (d := frq 1) hm' (Evs_cons (tr1 := T) (Ev_of (d := .tup [.int 1, .int 1]) (by ktr_rel) rfl) Evs_nil (by kernel_rfl)) (by ktr_rel)) rfl
    | some ws =>
      refine Ev_ifexp (tr1 := T) (b := false) (Tt_of (by kwd_rel) rfl) ?_
      simp only [Bool.false_eq_true, if_false]
      show Ev _ _ _ _ _ _ _ (wD m (some ws))
      ktr_rel
  generalize gvn w = gv at K ⊢
  refine Ex_assign (tr1 := T) (Ev_callN (by ktn_open) (by kernel_rfl) (by kernel_rfl) (by kernel_rfl) (by kernel_rfl) (by tb_rel) (Fn.mono ef (by decide))) (by kernel_rfl) (by kernel_rfl) ?_
  refine Ex_assign (tr1 := T) (Ev_callN (by ktn_open) (by kernel_rfl) (by kernel_rfl) (by kernel_rfl) (by kernel_rfl) (by tb_rel) (Fn.mono eh (by decide))) (by kernel_rfl) (by kernel_rfl) ?_
  have lt1 := ltimes_spec (C := C) (tr := T) G hm' hm hH hy (by decide)
  refine Ex_if_skip (tr1 := T) (Tt_or_false (tr1 := T) (Tt_same (tr1 := T) (d1 := vecD m fun i => dt m (Hm i) y) (d2 := vecD m fi) ?_ (by subst hFd; ktr_rel) (vec_congr p1) plain_vec (by kernel_rfl)) (Tt_cmp (tr1 := T) (d1 := .bool true) (d2 := .lst ((List.range c).map fun _ => .bool false)) (by ktr_rel) ?_ (Cmp_inF fun d hd => ?_) (by kernel_rfl))) ?_
  · exact Ev_callN (by ktn_open) (by kernel_rfl) (by kernel_rfl) (by kernel_rfl) (by kernel_rfl) (by tb_rel) (Fn.mono lt1 (by decide))
  · refine Ev_compM (N := c) (inp := fun k => vecD m (M k)) (fun _ => .bool false) [("rows", matD m m Hm)] ?_ (by omega) (by kernel_rfl) (by kwd_less) (fun k hk Lc => ?_) (fun _ => rfl)
    · show Ev _ _ _ _ _ _ _ (matD c m M)
      ktr_rel
    · have lt2 := ltimes_spec (C := C) (tr := T) G hm' hm hH (hM k hk) (by decide)
      refine Ev_same (tr1 := T) (d1 := vecD m fun i => dt m (Hm i) (M k)) (d2 := vecD m (M k)) ?_ (by ktr_rel) (vec_congr (p2 k hk)) plain_vec (by kernel_rfl)
      exact Ev_callN (by ktn_open) (by kernel_rfl) (by kernel_rfl) (by kernel_rfl) (by kernel_rfl) (by tb_rel) (Fn.mono lt2 (by decide))
  · obtain ⟨i, _, rfl⟩ := List.mem_map.mp hd
    rfl
  refine Ex_compRC (N := m) (fun i => vecD m fun j => dt m (Hm i) (fun t => Hm t j)) [("rows", matD m m Hm), ("many", .int m)] (by ktr_rel) (by omega) (by kernel_rfl) (fun _ => by kernel_rfl) (by kwd_less) (fun i hi Lc => ?_) (fun _ => rfl) (by kernel_rfl) (by kernel_rfl) ?_
  · refine Ev_of (Ev_compRC (N := m) (fun j => frq (dt m (Hm i) (fun t => Hm t j))) [("up", .int i), ("rows", matD m m Hm)] (by ktr_rel) (by omega) (by kernel_rfl) (fun _ => by kernel_rfl) (by kwd_less) (fun j hj Lc2 => ?_) (fun _ => rfl)) rfl
    have hl := ldot_spec (C := C) (tr := T) G hm (b := 45000) (c := 45000) (u := Hm i) (v := fun t => Hm t j) (hH i hi) (fun k hk => hH k hk j hj) (by decide)
    refine Ev_callN (by ktn_open) (by kernel_rfl) (by kernel_rfl) (by kernel_rfl) (by kernel_rfl) (tr1 := T) (ds := [vecD m (Hm i), vecD m (fun t => Hm t j)]) (Evs_cons (tr1 := T) (by ktr_rel) (Evs_cons (tr1 := T) ?_ Evs_nil (by kernel_rfl)) (by kernel_rfl)) (Fn.mono hl (by decide))
    refine Ev_of (Ev_compM (N := m) (inp := fun t => vecD m (Hm t)) (fun t => frq (Hm t j)) [("down", .int j)] ?_ (by omega) (by kernel_rfl) (by kwd_less) (fun t ht Lc2 => ?_) (fun _ => rfl)) rfl
    · show Ev _ _ _ _ _ _ _ (matD m m Hm)
      ktr_rel
    · ktr_rel
  refine Ex_if_skip (tr1 := T) (Tt_same (tr1 := T) (d1 := matD m m Hm) (d2 := matD m m fun i j => dt m (Hm i) (fun t => Hm t j)) ?_ (by show Ev _ _ _ (_ :: _) _ _ _ (D.lst _); ktr_rel) (mat_congr p3) plain_mat (by kernel_rfl)) (K _ (by kwd_less))
  refine Ev_of (Ev_compM (N := m) (inp := fun t => vecD m (Hm t)) (fun t => vecD m (Hm t)) [] ?_ (by omega) (by kernel_rfl) (by kwd_less) (fun t ht Lc2 => ?_) (fun _ => rfl)) rfl
  · show Ev _ _ _ _ _ _ _ (matD m m Hm)
    ktr_rel
  · ktr_rel
end


section
variable {C : Cx} {a : Addrs} {tr tr1 tr2 : List MObj} {n : Nat} {env : Env} {Γ : List (Str × D)}
/-- what the plain law shows -/
structure LawOk (m c : Nat) (w : Option (Nat → Rat)) (M : Nat → Nat → Rat) (y : Nat → Rat) (S : GS) : Prop where
  p1 : ∀ i, i < m → dt m (hp w S i S.r) y = y i - red m w S.e S.nm y S.r i
  p2 : ∀ k, k < c → ∀ i, i < m → dt m (hp w S i S.r) (M k) = M k i
  p3 : ∀ i, i < m → ∀ j, j < m → hp w S i S.r j = dt m (hp w S i S.r) (fun t => hp w S t S.r j)
  p4 : ps (fun k => hp w S k S.r k) m = ((S.r : Int) : Rat)
  p5 : ∀ k, k < m → wt w (fun i => lvp S i S.r) k = hp w S k S.r k
  p6 : w = none → ∀ i, i < m → ∀ j, j < m → hp w S i S.r j = hp w S j S.r i
  p7 : ∀ i, i < S.r → ∀ j, j < S.r → dt S.r (cv S i) (fun t => crs m w (fun i => M (S.pv i)) t j) = if i = j then 1 else 0
  p9 : S.r ≤ m
def WPos (m : Nat) (w : Option (Nat → Rat)) : Prop := ∀ ws, w = some ws → ∀ k, k < m → 0 < (ws k).num
theorem law_tail (G : Glob C a) {ns : List Int} {h : Hd} (Hh : HdOk ns h) (hz : ns.length ≤ 63) {qual : Str} {L : Addr} {code : Value} {m c : Nat} {w : Option (Nat → Rat)} {M : Nat → Nat → Rat} {y : Nat → Rat} (hm : m ≤ 4) (hc : c ≤ 3) (hw : Wsz 2 m w) (hwp : WPos m w)
    (hM : ∀ i, i < c → Vsz 3 m (M i)) (hy : Vsz 3 m y) (P : LawOk m c w M y (gs m w M c)) {Γ : List (Str × D)} (wk : Wk [("columns", matD c m M), ("y", vecD m y), ("weights", wD m w), ("many", .int m), ("hand", .ptr 0)] Γ) :
    Ex C 9 (fenv (fscope 44) qual L a.f_law code) Γ [handM ns h] ((fbody 44).drop 7) (.ret [handM ns (fin4 ns h)] (.bool true)) := by
  obtain ⟨HS, hr⟩ := gsOk hm hw hM c (Nat.le_refl _)
  have hr3 : (gs m w M c).r ≤ 3 := by omega
  have hpv := gs_pv (m := m) (w := w) (M := M) c
  have hco : D.lims 0 (coefs c (gs m w M c).pv (bcOut (gs m w M c).sh (gs m w M c).r (fac m w (gs m w M c).e (gs m w M c).nm y) (gs m w M c).r) (gs m w M c).r) = true := lim_coefs _
  have hrs : Vsz 26757 m (red m w (gs m w M c).e (gs m w M c).nm y (gs m w M c).r) := (red_size hm hw HS hy _ (Nat.le_refl _)).le (sB3 hr3)
  have ef : Fn C 7 (.ref a.f_fit) [handM ns h] [matD c m M, vecD m y, wD m w] [handM ns h] (fitOf a.Cl m c w M y) :=
    Fn_frame (fit_spec G hm hc hw hwp hM hy) (by simp only [D.lims, lim_mat, lim_vec, lim_w, Bool.and_true])
  unfold fitOf fitFrom at ef
  have eh := hat_rows_spec (C := C) (tr := [handM ns h]) (co := coefs c (gs m w M c).pv (bcOut (gs m w M c).sh (gs m w M c).r (fac m w (gs m w M c).e (gs m w M c).nm y) (gs m w M c).r) (gs m w M c).r) (st := fac m w (gs m w M c).e (gs m w M c).nm y) (fi := fun k => y k - red m w (gs m w M c).e (gs m w M c).nm y (gs m w M c).r k) (rs := red m w (gs m w M c).e (gs m w M c).nm y (gs m w M c).r) G hm hw HS hr3 hco
  have hH : ∀ i, i < m → Vsz 45000 m (hp w (gs m w M c) i (gs m w M c).r) := fun i hi => hp_size hm hw HS hr3 hi (Nat.le_refl _)
  generalize gs m w M c = S at *
  refine law_A G hm hc hM hy ef eh hH P.p1 P.p2 P.p3 (fun Γ wk => ?_) wk
  refine law_B G hm hw hr3 HS hco hH P.p4 P.p5 P.p6 (fun Γ wk => ?_) wk
  refine law_C G hm hc hw hM hr3 HS hco (fun i hi => hpv i hi) P.p7 (fun Γ wk => ?_) wk
  refine law_D G hm hw hrs hr3 HS hco P.p9 (fun Γ wk => ?_) wk
  exact law_end G Hh hz wk

/-! the draws -/
def dV (ns : List Int) : Nat → Hd → Hd
  | 0, h => h
  | j + 1, h => (pk ns (dV ns j h) 8).1
def dQ (ns : List Int) (h : Hd) (j : Nat) : Rat := valQ (pk ns (dV ns j h) 8).2
def rV (ns : List Int) (m : Nat) : Nat → Hd → Hd
  | 0, h => h
  | k + 1, h => dV ns m (rV ns m k h)
def wV (ns : List Int) : Nat → Hd → Hd
  | 0, h => h
  | j + 1, h => (pk ns (wV ns j h) 3).1
def wQ (k : Nat) : Rat := [(1 : Rat), 2, 1 / 3].getD k 0
def wU (ns : List Int) (h : Hd) (j : Nat) : Rat := wQ (pk ns (wV ns j h) 3).2
theorem dV_ok {ns : List Int} {h : Hd} (H : HdOk ns h) : ∀ j, HdOk ns (dV ns j h)
  | 0 => H
  | j + 1 => (pk_ok (dV_ok H j) (by decide)).1
theorem rV_ok {ns : List Int} {m : Nat} {h : Hd} (H : HdOk ns h) : ∀ j, HdOk ns (rV ns m j h)
  | 0 => H
  | j + 1 => dV_ok (rV_ok H j) m
theorem wV_ok {ns : List Int} {h : Hd} (H : HdOk ns h) : ∀ j, HdOk ns (wV ns j h)
  | 0 => H
  | j + 1 => (pk_ok (wV_ok H j) (by decide)).1
theorem wQ_ok {k : Nat} (h : k < 3) : Sz 2 (wQ k) ∧ 0 < (wQ k).num := by
  unfold Sz
  match k, h with
  | 0, _ | 1, _ | 2, _ => decide +kernel
def wDs : List D := [.tup [.int 1, .int 1], .tup [.int 2, .int 1], .tup [.int 1, .int 3]]
theorem idx_wq {k : Nat} (h : k < 3) : idx tr (.lst wDs) (k : Int) = some (frq (wQ k)) := by
  show nth wDs (k : Int) = _
  match k, h with
  | 0, _ | 1, _ | 2, _ => kernel_rfl!
theorem seed_is {s : Int} : (s.fmod 100003) * 7 = (((s % 100003).toNat * 7 : Nat) : Int) := by
  rw [Int.fmod_eq_emod_of_nonneg _ (by decide)]
  have := Int.emod_nonneg s (show (100003 : Int) ≠ 0 by decide)
  omega
theorem seed_lt {s : Int} : (s % 100003).toNat * 7 < 2 ^ 31 := by
  have := Int.emod_lt_of_pos s (show (0 : Int) < 100003 by decide)
  omega
end


section
variable {C : Cx} {a : Addrs} {tr tr1 tr2 : List MObj} {n : Nat} {env : Env} {Γ : List (Str × D)}
theorem values_ev (G : Glob C a) {ns : List Int} {h : Hd} (H : HdOk ns h) (hz : ns.length ≤ 63) {m : Nat} (hm : m ≤ 4) {env : Env} {Γ : List (Str × D)} {p1 p2 p3 px pos : Pos} {iter : Expr} {scope : Scope}
    (hi : Ev C 9 env Γ [handM ns h] iter [handM ns h] (.rng 0 m 1)) (B : blockB scope env "_" = true) (hΓ : Wk [("hand", .ptr 0)] (visible scope env Γ)) (hs : ∀ v, foldedSetIterable iter env v = pure v)
    (k1 : ∀ Lc, isVar ((cenvOf scope env Lc).kindOf "hand") = true) (k2 : ∀ Lc, (cenvOf scope env Lc).kindOf "_law_value" = some .globalImplicit)
    (k3 : ∀ Lc, starEach [.Name "hand" p2] (cenvOf scope env Lc) = (false, eval (.Name "hand" p2) (cenvOf scope env Lc)) :: starEach [] (cenvOf scope env Lc)) (k4 : ∀ Lc, (backTo p3 (starEach [] (cenvOf scope env Lc))).any (·.1) = false) :
    Ev C 9 env Γ [handM ns h] (.ListComp (.Call (.Name "_law_value" p1) [.Name "hand" p2] [] p3) [⟨.Name "_" px, iter, [], 0⟩] scope pos) [handM ns (dV ns m h)] (vecD m (dQ ns h)) := by
  refine Ev_of (Ev_compR (fun j => frq (dQ ns h j)) (fun j => [handM ns (dV ns j h)]) [("hand", .ptr 0)] hi (by omega) B hΓ (fun j hj Lc => ?_) hs) rfl
  have e := value_spec (C := C) G (dV_ok H j) hz
  refine Ev_callN G.c_law_value (k2 Lc) (by kernel_rfl) (k3 Lc) (k4 Lc) (tr1 := [handM ns (dV ns j h)]) (ds := [.ptr 0]) (Evs_cons (tr1 := [handM ns (dV ns j h)]) (Ev_name (look_tail (by kernel_rfl) look_head) (k1 Lc) (by kernel_rfl)) Evs_nil (k3 Lc)) (Fn.mono e (by decide))
theorem law_spec (G : Glob C a) {ns : List Int} (hz : ns.length ≤ 63) (PL : ∀ m c w M y, 1 ≤ m → m ≤ 4 → c ≤ 3 → WPos m w → LawOk m c w M y (gs m w M c)) :
    ∃ tr, ∀ qual L code, Ex C 9 (fenv (fscope 44) qual L a.f_law code) [("script", .lst (ns.map .int))] [] (fbody 44) (.ret tr (.bool true)) := by
  have H0 : HdOk ns ⟨0, 0, (ns.sum % 100003).toNat * 7⟩ := ⟨Nat.zero_le _, seed_lt⟩
  generalize hh0 : (⟨0, 0, (ns.sum % 100003).toNat * 7⟩ : Hd) = h0 at H0
  have v1 : Fn C 1 (.ref a.f_law_pick) [handM ns h0] [.ptr 0, .int 4] _ _ := pick_spec G H0 hz (l := 4) (by decide)
  obtain ⟨H1, k1⟩ := pk_ok H0 (l := 4) (by decide)
  generalize (pk ns h0 4).1 = h1 at v1 H1
  generalize (pk ns h0 4).2 = m0 at v1 k1
  have v2 : Fn C 1 (.ref a.f_law_pick) [handM ns h1] [.ptr 0, .int 4] _ _ := pick_spec G H1 hz (l := 4) (by decide)
  obtain ⟨H2, k2⟩ := pk_ok H1 (l := 4) (by decide)
  generalize (pk ns h1 4).1 = h2 at v2 H2
  generalize (pk ns h1 4).2 = c at v2 k2
  obtain ⟨m, hm⟩ : ∃ m, m = 1 + m0 := ⟨_, rfl⟩
  have hm1 : 1 ≤ m := by omega
  have hm4 : m ≤ 4 := by omega
  have hc3 : c ≤ 3 := by omega
  have H3 := rV_ok (m := m) H2
  have H4 := dV_ok (H3 c) m
  have hM : ∀ i, i < c → Vsz 3 m (dQ ns (rV ns m i h2)) := fun i _ j _ => valQ_size _
  have hy : Vsz 3 m (dQ ns (rV ns m c h2)) := fun j _ => valQ_size _
  have v3 : Fn C 1 (.ref a.f_law_pick) [handM ns (dV ns m (rV ns m c h2))] [.ptr 0, .int 3] _ _ := pick_spec G H4 hz (l := 3) (by decide)
  obtain ⟨H5, k5⟩ := pk_ok H4 (l := 3) (by decide)
  generalize (pk ns (dV ns m (rV ns m c h2)) 3).1 = h5 at v3 H5
  generalize (pk ns (dV ns m (rV ns m c h2)) 3).2 = b at v3 k5
  have front : ∀ (o : Out) (qual : Str) (L : Addr) (code : Value), (∀ Γ, Wk [("columns", matD c m fun i => dQ ns (rV ns m i h2)), ("y", vecD m (dQ ns (rV ns m c h2))), ("weights", .none), ("many", .int m), ("hand", .ptr 0)] Γ → Ex C 9 (fenv (fscope 44) qual L a.f_law code) Γ [handM ns (dV ns m (rV ns m c h2))] ((fbody 44).drop 6) o) →
      Ex C 9 (fenv (fscope 44) qual L a.f_law code) [("script", .lst (ns.map .int))] [] (fbody 44) o := fun o qual L code K => by
    conv in (fbody _) => whnf
    refine Ex_assign (tr1 := []) (d := .lst (ns.map .int)) (Ev_of (Ev_slice (tr1 := []) (ns := ns) (k := 63) (by ktr_rel) (Ev_of (d := .int 63) (by ktr_rel) rfl) (by omega) (fun _ _ => rfl)) (by rw [List.take_of_length_le hz])) (by kernel_rfl) (by kernel_rfl) ?_
    refine Ex_assign (tr1 := [handM ns h0]) (d := .ptr 0) ?_ (by kernel_rfl) (by kernel_rfl) ?_
    · subst hh0
      refine Ev_listM (tr1 := []) (ds := [.lst (ns.map .int), .int (0 : Nat), .int (0 : Nat), .int ((ns.sum % 100003).toNat * 7 : Nat)]) ?_ (by show 4 ≤ 1000; omega)
      refine Evs_cons (tr1 := []) (by ktr_rel) (Evs_cons (tr1 := []) (Ev_of (d := .int 0) (by ktr_rel) rfl) (Evs_cons (tr1 := []) (Ev_of (d := .int 0) (by ktr_rel) rfl) (Evs_cons (tr1 := []) (Ev_of (d := .int ((ns.sum.fmod 100003) * 7)) ?_ (congrArg D.int seed_is)) Evs_nil (by kernel_rfl)) (by kernel_rfl)) (by kernel_rfl)) (by kernel_rfl)
      refine Ev_bin (tr1 := []) (d1 := .int (ns.sum.fmod 100003)) (d2 := .int 7) ?_ (by ktr_rel) (Op_mul (.of_right (by decide)))
      refine Ev_bin (tr1 := []) (d1 := .int ns.sum) (d2 := .int 100003) ?_ (by ktr_rel) (Op_mod (by decide))
      exact Ev_callN (by ktn_open) (by kernel_rfl) (by kernel_rfl) (by kernel_rfl) (by kernel_rfl) (by tb_rel) Fn_sum
    refine Ex_assign (tr1 := [handM ns h1]) (d := .int m) (Ev_of (d := .int (1 + (m0 : Int))) (Ev_bin (tr1 := [handM ns h0]) (d1 := .int 1) (d2 := .int (m0 : Nat)) (by ktr_rel) (Ev_callN (by ktn_open) (by kernel_rfl) (by kernel_rfl) (by kernel_rfl) (by kernel_rfl) (by tb_rel) (Fn.mono v1 (by decide))) Op_add) (congrArg D.int (by omega))) (by kernel_rfl) (by kernel_rfl) ?_
    refine Ex_assign (tr1 := [handM ns (rV ns m c h2)]) (d := matD c m fun i => dQ ns (rV ns m i h2)) ?_ (by kernel_rfl) (by kernel_rfl) ?_
    · refine Ev_of (Ev_compR (N := c) (fun i => vecD m (dQ ns (rV ns m i h2))) (fun i => [handM ns (rV ns m i h2)]) [("many", .int m), ("hand", .ptr 0)] ?_ (by omega) (by kernel_rfl) (by kwd_less) (fun i hi Lc => ?_) (fun _ => rfl)) rfl
      · refine Ev_callN (by ktn_open) (by kernel_rfl) (by kernel_rfl) (by kernel_rfl) (by kernel_rfl) (tr1 := [handM ns h2]) (ds := [.int c]) (Evs_cons (tr1 := [handM ns h2]) ?_ Evs_nil (by kernel_rfl)) Fn_range1
        exact Ev_callN (by ktn_open) (by kernel_rfl) (by kernel_rfl) (by kernel_rfl) (by kernel_rfl) (by tb_rel) (Fn.mono v2 (by decide))
      · exact values_ev G (H3 i) hz hm4 (by ktr_rel) (by kernel_rfl) (by kwd_less) (fun _ => rfl) (fun _ => by kernel_rfl) (fun _ => by kernel_rfl) (fun _ => by kernel_rfl) (fun _ => by kernel_rfl)
    refine Ex_compR (N := m) (fun j => frq (dQ ns (rV ns m c h2) j)) (fun j => [handM ns (dV ns j (rV ns m c h2))]) [("hand", .ptr 0)] (by show Ev _ _ _ _ _ _ [handM ns (rV ns m c h2)] _; ktr_rel) (by omega) (by kernel_rfl) (by kwd_less) (fun j hj Lc => ?_) (fun _ => rfl) (by kernel_rfl) (by kernel_rfl) ?_
    · have e := value_spec (C := C) G (dV_ok (H3 c) j) hz
      exact Ev_callN (by ktn_open) (by kernel_rfl) (by kernel_rfl) (by kernel_rfl) (by kernel_rfl) (by tb_rel) (Fn.mono e (by decide))
    show Ex _ _ _ ((_, vecD m (dQ ns (rV ns m c h2))) :: _) [handM ns (dV ns m (rV ns m c h2))] _ _
    refine Ex_assign (tr1 := [handM ns (dV ns m (rV ns m c h2))]) (d := .none) (by ktr_rel) (by kernel_rfl) (by kernel_rfl) ?_
    exact K _ (by kwd_less)
  by_cases hb : b = 2
  · subst hb
    have hw : Wsz 2 m (some (wU ns h5)) := fun j _ => (wQ_ok (pk_ok (wV_ok H5 j) (by decide)).2).1
    have hwp : WPos m (some (wU ns h5)) := fun ws e j hj => by
      cases e
      exact (wQ_ok (pk_ok (wV_ok H5 j) (by decide)).2).2
    refine ⟨[handM ns (fin4 ns (wV ns m h5))], fun qual L code => front (.ret [handM ns (fin4 ns (wV ns m h5))] (.bool true)) qual L code fun Γ wk => ?_⟩
    refine Ex_pre (Γ1 := [("columns", matD c m fun i => dQ ns (rV ns m i h2)), ("y", vecD m (dQ ns (rV ns m c h2))), ("weights", .none), ("many", .int m), ("hand", .ptr 0)]) ?_ wk.look
    have P := PL m c (some (wU ns h5)) (fun i => dQ ns (rV ns m i h2)) (dQ ns (rV ns m c h2)) hm1 hm4 hc3 hwp
    have tail := fun Γ wk => law_tail G (wV_ok H5 m) hz (qual := qual) (L := L) (code := code) hm4 hc3 hw hwp hM hy P (Γ := Γ) wk
    clear P front PL
    conv in (List.drop 6 _) => whnf
    refine Ex_if_next (tr1 := [handM ns h5]) (tr2 := [handM ns (wV ns m h5)]) (Γ1 := [("columns", matD c m fun i => dQ ns (rV ns m i h2)), ("y", vecD m (dQ ns (rV ns m c h2))), ("weights", wD m (some (wU ns h5))), ("many", .int m), ("hand", .ptr 0)]) (Tt_of (Tt_cmp (tr1 := [handM ns h5]) (d1 := .int (2 : Nat)) (d2 := .int 2) ?_ (by ktr_rel) Cmp_eq (by kernel_rfl)) rfl) ?_ (tail _ (by kwd_less))
    · exact Ev_callN (by ktn_open) (by kernel_rfl) (by kernel_rfl) (by kernel_rfl) (by kernel_rfl) (by tb_rel) (Fn.mono v3 (by decide))
    · refine Ex_compR (N := m) (fun j => frq (wU ns h5 j)) (fun j => [handM ns (wV ns j h5)]) [("hand", .ptr 0)] (by show Ev _ _ _ _ _ _ [handM ns h5] _; ktr_rel) (by omega) (by kernel_rfl) (by kwd_less) (fun j hj Lc => ?_) (fun _ => rfl) (by kernel_rfl) (by kernel_rfl) (by show Ex _ _ _ ((_, wD m (some (wU ns h5))) :: _) [handM ns (wV ns m h5)] _ _; exact Ex_end (by kwd_less))
      have e : Fn C 1 (.ref a.f_law_pick) [handM ns (wV ns j h5)] [.ptr 0, .int 3] _ _ := pick_spec G (wV_ok H5 j) hz (l := 3) (by decide)
      have q := idx_wq (tr := [handM ns (wV ns (j + 1) h5)]) (pk_ok (wV_ok H5 j) (l := 3) (by decide)).2
      change Ev _ _ _ _ _ _ _ (frq (wQ (pk ns (wV ns j h5) 3).2))
      change Fn C 1 _ _ _ [handM ns (wV ns (j + 1) h5)] _ at e
      have hk3 := (pk_ok (wV_ok H5 j) (l := 3) (by decide)).2
      generalize (pk ns (wV ns j h5) 3).2 = k at e q hk3 ⊢
      generalize wQ k = x at q ⊢
      generalize wV ns (j + 1) h5 = g at e q ⊢
      with_reducible refine' Ev_sub (tr1 := [handM ns (wV ns j h5)]) (dv := .lst wDs) (k := ((k : Nat) : Int)) ?v ?i ?d ?k ?s
      case s => exact fun _ _ => rfl
      case k => omega
      case d => exact q
      case i => exact Ev_callN (by ktn_open) (by kernel_rfl) (by kernel_rfl) (by kernel_rfl) (by kernel_rfl) (by tb_rel) (Fn.mono e (by decide))
      with_reducible refine' Ev_list ?a ?b
      case b => decide
      unfold wDs; tb_rel
  · refine ⟨[handM ns (fin4 ns h5)], fun qual L code => front (.ret [handM ns (fin4 ns h5)] (.bool true)) qual L code fun Γ wk => ?_⟩
    refine Ex_pre (Γ1 := [("columns", matD c m fun i => dQ ns (rV ns m i h2)), ("y", vecD m (dQ ns (rV ns m c h2))), ("weights", .none), ("many", .int m), ("hand", .ptr 0)]) ?_ wk.look
    have hwp : WPos m none := fun ws e => nomatch e
    have P := PL m c none (fun i => dQ ns (rV ns m i h2)) (dQ ns (rV ns m c h2)) hm1 hm4 hc3 hwp
    have tail := fun Γ wk => law_tail G H5 hz (qual := qual) (L := L) (code := code) hm4 hc3 (w := none) trivial hwp hM hy P (Γ := Γ) wk
    clear P front PL
    conv in (List.drop 6 _) => whnf
    refine Ex_if_skip (tr1 := [handM ns h5]) (Tt_of (Tt_cmp (tr1 := [handM ns h5]) (d1 := .int (b : Nat)) (d2 := .int 2) ?_ (by ktr_rel) Cmp_eq (by kernel_rfl)) (by simp; omega)) (tail _ (by kwd_less))
    exact Ev_callN (by ktn_open) (by kernel_rfl) (by kernel_rfl) (by kernel_rfl) (by kernel_rfl) (by tb_rel) (Fn.mono v3 (by decide))
end


section
variable {m : Nat}
/-! finite sums -/
theorem ps_congr {f g : Nat → Rat} : ∀ {n : Nat}, (∀ k, k < n → f k = g k) → ps f n = ps g n
  | 0, _ => rfl
  | n + 1, h => by
    show ps f n + f n = ps g n + g n
    rw [ps_congr (fun k hk => h k (by omega)), h n (by omega)]
theorem ps_zero {f : Nat → Rat} : ∀ {n : Nat}, (∀ k, k < n → f k = 0) → ps f n = 0
  | 0, _ => rfl
  | n + 1, h => by
    show ps f n + f n = 0
    rw [ps_zero (fun k hk => h k (by omega)), h n (by omega), Rat.add_zero]
theorem ps_add {f g : Nat → Rat} : ∀ n, ps (fun k => f k + g k) n = ps f n + ps g n
  | 0 => by show (0 : Rat) = 0 + 0; rw [Rat.add_zero]
  | n + 1 => by
    show ps (fun k => f k + g k) n + (f n + g n) = ps f n + f n + (ps g n + g n)
    rw [ps_add n]; grind
theorem ps_sub {f g : Nat → Rat} : ∀ n, ps (fun k => f k - g k) n = ps f n - ps g n
  | 0 => by show (0 : Rat) = 0 - 0; grind
  | n + 1 => by
    show ps (fun k => f k - g k) n + (f n - g n) = ps f n + f n - (ps g n + g n)
    rw [ps_sub n]; grind
theorem ps_mul {f : Nat → Rat} (c : Rat) : ∀ n, ps (fun k => c * f k) n = c * ps f n
  | 0 => by show (0 : Rat) = c * 0; rw [Rat.mul_zero]
  | n + 1 => by
    show ps (fun k => c * f k) n + c * f n = c * (ps f n + f n)
    rw [ps_mul c n, Rat.mul_add]
theorem ps_swap (f : Nat → Nat → Rat) (n : Nat) : ∀ k, ps (fun i => ps (fun j => f i j) n) k = ps (fun j => ps (fun i => f i j) k) n
  | 0 => (ps_zero fun _ _ => rfl).symm
  | k + 1 => by
    show ps (fun i => ps (fun j => f i j) n) k + ps (fun j => f k j) n = ps (fun j => ps (fun i => f i j) k + f k j) n
    rw [ps_swap f n k, ps_add]
theorem ps_single {f : Nat → Rat} {k : Nat} : ∀ {n : Nat}, k < n → (∀ i, i < n → i ≠ k → f i = 0) → ps f n = f k
  | 0, h, _ => absurd h (Nat.not_lt_zero k)
  | n + 1, h, z => by
    show ps f n + f n = f k
    by_cases hk : k = n
    · subst hk
      rw [ps_zero fun i hi => z i (by omega) (by omega), Rat.zero_add]
    · rw [ps_single (by omega) fun i hi => z i (by omega), z n (by omega) (fun e => hk e.symm), Rat.add_zero]
theorem ps_nonneg {f : Nat → Rat} : ∀ {n : Nat}, (∀ k, k < n → 0 ≤ f k) → 0 ≤ ps f n
  | 0, _ => by show (0 : Rat) ≤ 0; exact Rat.le_refl
  | n + 1, h => by
    show 0 ≤ ps f n + f n
    exact Rat.add_nonneg (ps_nonneg fun k hk => h k (by omega)) (h n (by omega))
theorem ps_ge {f : Nat → Rat} {k : Nat} : ∀ {n : Nat}, k < n → (∀ i, i < n → 0 ≤ f i) → f k ≤ ps f n
  | 0, h, _ => absurd h (Nat.not_lt_zero k)
  | n + 1, h, z => by
    show f k ≤ ps f n + f n
    by_cases hk : k = n
    · subst hk
      have := ps_nonneg (f := f) (n := k) fun i hi => z i (by omega)
      grind
    · have := ps_ge (f := f) (k := k) (n := n) (by omega) fun i hi => z i (by omega)
      have := z n (by omega)
      grind
theorem ps_le {f g : Nat → Rat} : ∀ {n : Nat}, (∀ k, k < n → f k ≤ g k) → ps f n ≤ ps g n
  | 0, _ => by show (0 : Rat) ≤ 0; exact Rat.le_refl
  | n + 1, h => by
    show ps f n + f n ≤ ps g n + g n
    have h1 := ps_le (f := f) (g := g) (n := n) fun k hk => h k (by omega)
    have h2 := h n (by omega)
    grind
theorem ps_one : ∀ n : Nat, ps (fun _ => 1) n = ((n : Int) : Rat)
  | 0 => rfl
  | n + 1 => by
    show ps (fun _ => 1) n + 1 = _
    rw [ps_one n]
    have : ((n + 1 : Nat) : Int) = (n : Int) + 1 := by omega
    rw [this, Rat.intCast_add]; rfl
theorem sq_nonneg' (x : Rat) : 0 ≤ x * x := by
  rcases Rat.le_total (a := 0) (b := x) with h | h
  · exact Rat.mul_nonneg h h
  · have h1 : 0 ≤ -x := by grind
    have h2 := Rat.mul_nonneg h1 h1
    grind

/-! the weighted product -/
def ip (m : Nat) (o u v : Nat → Rat) : Rat := ps (fun k => u k * o k * v k) m
theorem dt_wt {w : Option (Nat → Rat)} {u v : Nat → Rat} : dt m (wt w u) v = ip m (gvn w) u v := by
  cases w with
  | none =>
    show ps (fun k => u k * v k) m = ps (fun k => u k * 1 * v k) m
    exact ps_congr fun k _ => by rw [Rat.mul_one]
  | some ws => rfl
theorem wt_is {w : Option (Nat → Rat)} {u : Nat → Rat} {k : Nat} : wt w u k = u k * gvn w k := by
  cases w with
  | none => show u k = u k * 1; rw [Rat.mul_one]
  | some ws => rfl
variable {o : Nat → Rat}
theorem ip_comm {u v : Nat → Rat} : ip m o u v = ip m o v u := ps_congr fun k _ => by grind
theorem ip_congr {u u' v v' : Nat → Rat} (h : ∀ k, k < m → u k = u' k) (h' : ∀ k, k < m → v k = v' k) : ip m o u v = ip m o u' v' := ps_congr fun k hk => by rw [h k hk, h' k hk]
theorem ip_sub {u v z : Nat → Rat} : ip m o (fun i => u i - v i) z = ip m o u z - ip m o v z := by
  unfold ip
  rw [← ps_sub]
  exact ps_congr fun k _ => by grind
theorem ip_add {u v z : Nat → Rat} : ip m o (fun i => u i + v i) z = ip m o u z + ip m o v z := by
  unfold ip
  rw [← ps_add]
  exact ps_congr fun k _ => by grind
theorem ip_mul {u z : Nat → Rat} {c : Rat} : ip m o (fun i => c * u i) z = c * ip m o u z := by
  unfold ip
  rw [← ps_mul]
  exact ps_congr fun k _ => by grind
theorem ip_ps {a : Nat → Rat} {e : Nat → Nat → Rat} {z : Nat → Rat} : ∀ n, ip m o (fun i => ps (fun t => a t * e t i) n) z = ps (fun t => a t * ip m o (e t) z) n
  | 0 => ps_zero fun k _ => by show (0 : Rat) * o k * z k = 0; rw [Rat.zero_mul, Rat.zero_mul]
  | n + 1 => by
    show ip m o (fun i => ps (fun t => a t * e t i) n + a n * e n i) z = ps (fun t => a t * ip m o (e t) z) n + a n * ip m o (e n) z
    rw [ip_add (u := fun i => ps (fun t => a t * e t i) n) (v := fun i => a n * e n i), ip_mul, ip_ps n]
theorem ip_term {u : Nat → Rat} (ho : ∀ k, k < m → 0 < o k) : ∀ k, k < m → 0 ≤ u k * o k * u k := fun k hk => by
  have h1 := Rat.mul_nonneg (Rat.le_of_lt (ho k hk)) (sq_nonneg' (u k))
  have h2 : u k * o k * u k = o k * (u k * u k) := by grind
  rw [h2]; exact h1
theorem ip_zero {u : Nat → Rat} (ho : ∀ k, k < m → 0 < o k) (h : ip m o u u = 0) : ∀ k, k < m → u k = 0 := fun k hk => by
  have h1 := ps_ge (f := fun k => u k * o k * u k) hk (ip_term ho)
  have h2 := ip_term (u := u) ho k hk
  have h3 : u k * o k * u k = 0 := Rat.le_antisymm (by unfold ip at h; rw [h] at h1; exact h1) h2
  have h4 := ho k hk
  rcases Rat.mul_eq_zero.mp h3 with h5 | h5
  · rcases Rat.mul_eq_zero.mp h5 with h6 | h6
    · exact h6
    · rw [h6] at h4; exact absurd h4 (Rat.lt_irrefl)
  · exact h5
end

section
variable {m : Nat} {w : Option (Nat → Rat)}
/-! an orthogonal family -/
structure Orth (m : Nat) (o : Nat → Rat) (r : Nat) (e : Nat → Nat → Rat) (nm : Nat → Rat) : Prop where
  orth : ∀ i, i < r → ∀ j, j < r → i ≠ j → ip m o (e i) (e j) = 0
  nrm : ∀ i, i < r → ip m o (e i) (e i) = nm i
  nz : ∀ i, i < r → nm i ≠ 0
variable {r : Nat} {e : Nat → Nat → Rat} {nm : Nat → Rat}
theorem div_mul_self {x y : Rat} (h : y ≠ 0) : x / y * y = x := Rat.div_mul_cancel h
theorem red_is (O : Orth m (gvn w) r e nm) {u : Nat → Rat} : ∀ t, t ≤ r → red m w e nm u t = fun i => u i - ps (fun s => ip m (gvn w) u (e s) / nm s * e s i) t
  | 0, _ => by funext i; show u i = u i - 0; grind
  | t + 1, ht => by
    have ih := red_is O (u := u) t (by omega)
    have h1 : dt m (wt w (red m w e nm u t)) (e t) = ip m (gvn w) u (e t) := by
      rw [dt_wt, ih, ip_sub, ip_ps, ps_zero (f := fun s => ip m (gvn w) u (e s) / nm s * ip m (gvn w) (e s) (e t)) fun s hs => by rw [O.orth s (by omega) t (by omega) (by omega), Rat.mul_zero]]
      grind
    funext i
    show red m w e nm u t i - dt m (wt w (red m w e nm u t)) (e t) / nm t * e t i = u i - (ps (fun s => ip m (gvn w) u (e s) / nm s * e s i) t + ip m (gvn w) u (e t) / nm t * e t i)
    rw [h1, ih]
    grind
theorem fac_is (O : Orth m (gvn w) r e nm) {u : Nat → Rat} {t : Nat} (ht : t < r) : fac m w e nm u t = ip m (gvn w) u (e t) / nm t := by
  unfold fac
  rw [dt_wt, red_is O t (by omega), ip_sub, ip_ps, ps_zero (f := fun s => ip m (gvn w) u (e s) / nm s * ip m (gvn w) (e s) (e t)) fun s hs => by rw [O.orth s (by omega) t (by omega) (by omega), Rat.mul_zero]]
  congr 1
  grind
/-- what is left stands upright on the family -/
theorem red_orth (O : Orth m (gvn w) r e nm) {u : Nat → Rat} {s : Nat} (hs : s < r) : ip m (gvn w) (red m w e nm u r) (e s) = 0 := by
  rw [red_is O r (Nat.le_refl _), ip_sub, ip_ps, ps_single hs fun i hi hn => by rw [O.orth i hi s hs hn, Rat.mul_zero], O.nrm s hs, div_mul_self (O.nz s hs)]
  grind
theorem red_split (O : Orth m (gvn w) r e nm) {u : Nat → Rat} (x : Nat) : u x = red m w e nm u r x + ps (fun t => fac m w e nm u t * e t x) r := by
  rw [red_is O r (Nat.le_refl _), ps_congr (f := fun t => fac m w e nm u t * e t x) (g := fun t => ip m (gvn w) u (e t) / nm t * e t x) fun t ht => by rw [fac_is O ht]]
  grind

structure Inv (m : Nat) (w : Option (Nat → Rat)) (M : Nat → Nat → Rat) (k : Nat) (S : GS) : Prop where
  o : Orth m (gvn w) S.r S.e S.nm
  piv : ∀ i, i < S.r → ∀ x, M (S.pv i) x = S.e i x + ps (fun t => S.sh i t * S.e t x) i
  span : ∀ q, q < k → ∃ a : Nat → Rat, ∀ x, x < m → M q x = ps (fun t => a t * S.e t x) S.r
theorem inv_gs (hw : ∀ k, k < m → 0 < gvn w k) (M : Nat → Nat → Rat) : ∀ k, Inv m w M k (gs m w M k)
  | 0 => ⟨⟨fun i h => absurd h (Nat.not_lt_zero i), fun i h => absurd h (Nat.not_lt_zero i), fun i h => absurd h (Nat.not_lt_zero i)⟩, fun i h => absurd h (Nat.not_lt_zero i), fun q h => absurd h (Nat.not_lt_zero q)⟩
  | k + 1 => by
    have I := inv_gs hw M k
    show Inv m w M (k + 1) (gsNext m w (gs m w M k) k (M k))
    generalize gs m w M k = S at I
    have hq : gsQ m w S (M k) = ip m (gvn w) (gsB m w S (M k)) (gsB m w S (M k)) := dt_wt
    have hs : ∀ x, M k x = gsB m w S (M k) x + ps (fun t => fac m w S.e S.nm (M k) t * S.e t x) S.r := fun x => red_split I.o x
    have ho : ∀ s, s < S.r → ip m (gvn w) (gsB m w S (M k)) (S.e s) = 0 := fun s h => red_orth I.o h
    unfold gsNext
    split
    · rename_i hz
      have hz' : ip m (gvn w) (gsB m w S (M k)) (gsB m w S (M k)) = 0 := hq ▸ Rat.num_eq_zero.mp hz
      have hb := ip_zero hw hz'
      refine ⟨I.o, I.piv, fun q hqk => ?_⟩
      by_cases h : q = k
      · subst h
        exact ⟨fac m w S.e S.nm (M q), fun x hx => by rw [hs x, hb x hx, Rat.zero_add]⟩
      · exact I.span q (by omega)
    · rename_i hz
      have hz' : gsQ m w S (M k) ≠ 0 := fun h => hz (by rw [h]; rfl)
      unfold gsPush
      generalize gsB m w S (M k) = B at *
      generalize gsQ m w S (M k) = Q at *
      generalize fac m w S.e S.nm (M k) = F at *
      have er : upN S.e S.r B S.r = B := by simp [upN]
      have nr : upN S.nm S.r Q S.r = Q := by simp [upN]
      have sr : upN S.sh S.r F S.r = F := by simp [upN]
      have vr : upN S.pv S.r k S.r = k := by simp [upN]
      have el : ∀ i, i < S.r → upN S.e S.r B i = S.e i := fun i hi => by unfold upN; rw [if_neg (by omega)]
      have nl : ∀ i, i < S.r → upN S.nm S.r Q i = S.nm i := fun i hi => by unfold upN; rw [if_neg (by omega)]
      have sl : ∀ i, i < S.r → upN S.sh S.r F i = S.sh i := fun i hi => by unfold upN; rw [if_neg (by omega)]
      have vl : ∀ i, i < S.r → upN S.pv S.r k i = S.pv i := fun i hi => by unfold upN; rw [if_neg (by omega)]
      have hc : ∀ i, i < S.r + 1 → i < S.r ∨ i = S.r := fun i h => by omega
      refine ⟨⟨fun i hi j hj hij => ?_, fun i hi => ?_, fun i hi => ?_⟩, fun i hi x => ?_, fun q hqk => ?_⟩
      · show ip m (gvn w) (upN S.e S.r B i) (upN S.e S.r B j) = 0
        rcases hc i hi with h | rfl
        · rcases hc j hj with h' | rfl
          · rw [el i h, el j h']; exact I.o.orth i h j h' hij
          · rw [el i h, er, ip_comm]; exact ho i h
        · rcases hc j hj with h' | rfl
          · rw [er, el j h']; exact ho j h'
          · exact absurd rfl hij
      · show ip m (gvn w) (upN S.e S.r B i) (upN S.e S.r B i) = upN S.nm S.r Q i
        rcases hc i hi with h | rfl
        · rw [el i h, nl i h]; exact I.o.nrm i h
        · rw [er, nr, hq]
      · show upN S.nm S.r Q i ≠ 0
        rcases hc i hi with h | rfl
        · rw [nl i h]; exact I.o.nz i h
        · rw [nr]; exact hz'
      · show M (upN S.pv S.r k i) x = upN S.e S.r B i x + ps (fun t => upN S.sh S.r F i t * upN S.e S.r B t x) i
        rcases hc i hi with h | rfl
        · rw [vl i h, el i h, sl i h, I.piv i h x]
          congr 1
          exact ps_congr fun t ht => by rw [el t (by omega)]
        · rw [vr, er, sr, hs x]
          congr 1
          exact ps_congr fun t ht => by rw [el t ht]
      · by_cases h : q = k
        · subst h
          refine ⟨upN F S.r 1, fun x hx => ?_⟩
          show _ = ps (fun t => upN F S.r 1 t * upN S.e S.r B t x) S.r + upN F S.r 1 S.r * upN S.e S.r B S.r x
          have e1 : upN F S.r 1 S.r = 1 := by simp [upN]
          rw [er, e1, hs x, ps_congr (f := fun t => upN F S.r 1 t * upN S.e S.r B t x) (g := fun t => F t * S.e t x) fun t ht => by rw [el t ht]; unfold upN; rw [if_neg (by omega)]]
          grind
        · obtain ⟨a, ha⟩ := I.span q (by omega)
          refine ⟨upN a S.r 0, fun x hx => ?_⟩
          show _ = ps (fun t => upN a S.r 0 t * upN S.e S.r B t x) S.r + upN a S.r 0 S.r * upN S.e S.r B S.r x
          have e1 : upN a S.r 0 S.r = 0 := by simp [upN]
          rw [er, e1, ha x hx, ps_congr (f := fun t => upN a S.r 0 t * upN S.e S.r B t x) (g := fun t => a t * S.e t x) fun t ht => by rw [el t ht]; unfold upN; rw [if_neg (by omega)]]
          grind
end

section
variable {m c : Nat} {w : Option (Nat → Rat)} {M : Nat → Nat → Rat} {S : GS}
theorem ps_mulr {f : Nat → Rat} (x : Rat) (n : Nat) : ps f n * x = ps (fun k => f k * x) n := by
  rw [Rat.mul_comm, ← ps_mul]
  exact ps_congr fun k _ => Rat.mul_comm _ _
theorem hp_dt {i : Nat} {u : Nat → Rat} : dt m (hp w S i S.r) u = ps (fun t => ip m (gvn w) u (S.e t) / S.nm t * S.e t i) S.r := by
  have h1 : dt m (hp w S i S.r) u = ps (fun j => ps (fun t => S.e t i / S.nm t * (wt w (S.e t) j * u j)) S.r) m := by
    unfold dt
    refine ps_congr fun j _ => ?_
    show ps (fun t => S.e t i / S.nm t * wt w (S.e t) j) S.r * u j = _
    rw [ps_mulr]
    exact ps_congr fun t _ => Rat.mul_assoc _ _ _
  rw [h1, ps_swap]
  refine ps_congr fun t _ => ?_
  rw [ps_mul]
  have h2 : ps (fun j => wt w (S.e t) j * u j) m = ip m (gvn w) (S.e t) u := dt_wt
  rw [h2, ip_comm]
  grind
theorem ip_span (O : Orth m (gvn w) S.r S.e S.nm) {a u : Nat → Rat} (h : ∀ x, x < m → u x = ps (fun t => a t * S.e t x) S.r) {t : Nat} (ht : t < S.r) : ip m (gvn w) u (S.e t) = a t * S.nm t := by
  rw [ip_congr (u' := fun x => ps (fun t => a t * S.e t x) S.r) (v' := S.e t) h (fun _ _ => rfl), ip_ps, ps_single ht fun i hi hn => by rw [O.orth i hi t ht hn, Rat.mul_zero], O.nrm t ht]
theorem mul_div_self {x y : Rat} (h : y ≠ 0) : x * y / y = x := by
  rw [Rat.div_def, Rat.mul_assoc, Rat.mul_inv_cancel _ h, Rat.mul_one]
/-- what lies in the span is kept -/
theorem hp_span (O : Orth m (gvn w) S.r S.e S.nm) {a u : Nat → Rat} (h : ∀ x, x < m → u x = ps (fun t => a t * S.e t x) S.r) {i : Nat} (hi : i < m) : dt m (hp w S i S.r) u = u i := by
  rw [hp_dt, h i hi]
  exact ps_congr fun t ht => by rw [ip_span O h ht, mul_div_self (O.nz t ht)]
theorem l1 (I : Inv m w M c S) {y : Nat → Rat} (i : Nat) : dt m (hp w S i S.r) y = y i - red m w S.e S.nm y S.r i := by
  rw [hp_dt, red_is I.o S.r (Nat.le_refl _)]
  grind
theorem l2 (I : Inv m w M c S) {k : Nat} (hk : k < c) {i : Nat} (hi : i < m) : dt m (hp w S i S.r) (M k) = M k i := by
  obtain ⟨a, ha⟩ := I.span k hk
  exact hp_span I.o ha hi
theorem hp_col {j : Nat} (x : Nat) : hp w S x S.r j = ps (fun t => wt w (S.e t) j / S.nm t * S.e t x) S.r := ps_congr fun t _ => by grind
theorem l3 (I : Inv m w M c S) {i j : Nat} (hi : i < m) : hp w S i S.r j = dt m (hp w S i S.r) (fun t => hp w S t S.r j) :=
  (hp_span I.o (a := fun t => wt w (S.e t) j / S.nm t) (fun x _ => hp_col x) hi).symm
theorem l4 (I : Inv m w M c S) : ps (fun k => hp w S k S.r k) m = ((S.r : Int) : Rat) := by
  have h1 : ps (fun k => hp w S k S.r k) m = ps (fun t => ps (fun k => S.e t k / S.nm t * wt w (S.e t) k) m) S.r := ps_swap (fun k t => S.e t k / S.nm t * wt w (S.e t) k) S.r m
  rw [h1, ← ps_one]
  refine ps_congr fun t ht => ?_
  have h2 : ps (fun k => S.e t k / S.nm t * wt w (S.e t) k) m = 1 / S.nm t * ip m (gvn w) (S.e t) (S.e t) := by
    unfold ip
    rw [← ps_mul]
    exact ps_congr fun k _ => by rw [wt_is]; grind
  rw [h2, I.o.nrm t ht, div_mul_self (I.o.nz t ht)]
theorem l5 (k : Nat) : wt w (fun i => lvp S i S.r) k = hp w S k S.r k := by
  rw [wt_is]
  show ps (fun t => S.e t k * S.e t k / S.nm t) S.r * gvn w k = _
  rw [ps_mulr]
  exact ps_congr fun t _ => by rw [wt_is]; grind
theorem l6 (h : w = none) (i j : Nat) : hp w S i S.r j = hp w S j S.r i := by
  subst h
  exact ps_congr fun t _ => by
    show S.e t i / S.nm t * S.e t j = S.e t j / S.nm t * S.e t i
    grind
/-- the diagonal is at most one -/
theorem l9 (hw : ∀ k, k < m → 0 < gvn w k) (I : Inv m w M c S) : S.r ≤ m := by
  have hg : ∀ i j, hp w S i S.r j * gvn w i = hp w S j S.r i * gvn w j := fun i j => by
    show ps _ S.r * _ = ps _ S.r * _
    rw [ps_mulr, ps_mulr]
    exact ps_congr fun t _ => by rw [wt_is, wt_is]; grind
  have h1 : ∀ k, k < m → hp w S k S.r k ≤ 1 := fun k hk => by
    have e := l3 I (i := k) (j := k) hk
    have hge : hp w S k S.r k * hp w S k S.r k ≤ hp w S k S.r k := by
      conv => rhs; rw [e]
      refine ps_ge (f := fun j => hp w S k S.r j * hp w S j S.r k) hk fun j hj => ?_
      have h2 := hg k j
      have h3 := hw k hk
      have h4 := hw j hj
      -- h_kj h_jk = h_jk^2 w_j / w_k
      have h5 : hp w S k S.r j = hp w S j S.r k * gvn w j * (gvn w k)⁻¹ := by
        rw [← h2, Rat.mul_assoc, Rat.mul_inv_cancel _ (fun h => by rw [h] at h3; exact Rat.lt_irrefl h3), Rat.mul_one]
      have h6 : hp w S k S.r j * hp w S j S.r k = hp w S j S.r k * hp w S j S.r k * (gvn w j * (gvn w k)⁻¹) := by rw [h5]; grind
      show 0 ≤ hp w S k S.r j * hp w S j S.r k
      rw [h6]
      exact Rat.mul_nonneg (sq_nonneg' _) (Rat.mul_nonneg (Rat.le_of_lt h4) (Rat.le_of_lt (Rat.inv_pos.mpr h3)))
    generalize hp w S k S.r k = x at hge
    rcases Rat.le_total (a := x) (b := 1) with h | h
    · exact h
    · have h7 : 0 ≤ (x - 1) * (x - 1) := sq_nonneg' _
      grind
  have h2 := ps_le (f := fun k => hp w S k S.r k) (g := fun _ => 1) (n := m) h1
  rw [l4 I, ps_one] at h2
  have h3 : (S.r : Int) ≤ (m : Int) := Rat.intCast_le_intCast.mp h2
  omega
theorem gvn_pos (hwp : WPos m w) : ∀ k, k < m → 0 < gvn w k := fun k hk => by
  cases w with
  | none => show (0 : Rat) < 1; decide
  | some ws =>
    have h := hwp ws rfl k hk
    have h1 : 0 ≤ ws k := Rat.num_nonneg.mp (Int.le_of_lt h)
    have h2 : ws k ≠ 0 := fun q => by rw [q] at h; exact absurd h (by decide)
    exact Rat.lt_of_le_of_ne h1 (Ne.symm h2)
end

section
variable {m c : Nat} {w : Option (Nat → Rat)} {M : Nat → Nat → Rat} {S : GS}
def Rr (sh : Nat → Nat → Rat) (t i : Nat) : Rat := if t = i then 1 else if t < i then sh i t else 0
theorem Rr_sum {sh : Nat → Nat → Rat} {i : Nat} {f : Nat → Rat} : ∀ n, ps (fun t => Rr sh t i * f t) n = if i < n then f i + ps (fun t => sh i t * f t) i else ps (fun t => sh i t * f t) n
  | 0 => rfl
  | n + 1 => by
    show ps (fun t => Rr sh t i * f t) n + Rr sh n i * f n = _
    rw [Rr_sum n]
    unfold Rr
    by_cases h1 : i < n
    · rw [if_pos h1, if_neg (by omega), if_neg (by omega), if_pos (by omega), Rat.zero_mul, Rat.add_zero]
    · by_cases h2 : n = i
      · subst h2
        rw [if_neg h1, if_pos rfl, if_pos (by omega), Rat.one_mul, Rat.add_comm]
      · rw [if_neg h1, if_neg h2, if_pos (by omega), if_neg (by omega)]; rfl
theorem crs_is (I : Inv m w M c S) {i j : Nat} (hi : i < S.r) (hj : j < S.r) : crs m w (fun i => M (S.pv i)) i j = ps (fun s => Rr S.sh s j * (Rr S.sh s i * S.nm s)) S.r := by
  have hU : ∀ i, i < S.r → ∀ x, x < m → M (S.pv i) x = ps (fun t => Rr S.sh t i * S.e t x) S.r := fun i hi x _ => by
    rw [Rr_sum, if_pos hi]; exact I.piv i hi x
  show ip m (gvn w) (M (S.pv i)) (M (S.pv j)) = _
  rw [ip_comm, ip_congr (u' := fun x => ps (fun t => Rr S.sh t j * S.e t x) S.r) (v' := M (S.pv i)) (hU j hj) (fun _ _ => rfl), ip_ps]
  exact ps_congr fun t ht => by rw [ip_comm, ip_span I.o (hU i hi) ht]
theorem cov1 (sh : Nat → Nat → Rat) (nm : Nat → Rat) (z0 : nm 0 ≠ 0) : ∀ i, i < 1 → ∀ j, j < 1 → ps (fun t => cvp (invOut sh 1) nm i t (1 - mxn i t) * ps (fun s => Rr sh s j * (Rr sh s t * nm s)) 1) 1 = if i = j then 1 else 0 := by
  intro i hi j hj
  match i, hi, j, hj with
  | 0, _, 0, _ =>
    simp [ps, cvp, mxn, invOut, invIn, up2, unit2, Rr]
    grind
theorem cov2 (sh : Nat → Nat → Rat) (nm : Nat → Rat) (z0 : nm 0 ≠ 0) (z1 : nm 1 ≠ 0) : ∀ i, i < 2 → ∀ j, j < 2 → ps (fun t => cvp (invOut sh 2) nm i t (2 - mxn i t) * ps (fun s => Rr sh s j * (Rr sh s t * nm s)) 2) 2 = if i = j then 1 else 0 := by
  intro i hi j hj
  match i, hi, j, hj with
  | 0, _, 0, _ | 0, _, 1, _ | 1, _, 0, _ | 1, _, 1, _ =>
    simp [ps, cvp, mxn, invOut, invIn, up2, unit2, Rr]
    grind
theorem cov3 (sh : Nat → Nat → Rat) (nm : Nat → Rat) (z0 : nm 0 ≠ 0) (z1 : nm 1 ≠ 0) (z2 : nm 2 ≠ 0) : ∀ i, i < 3 → ∀ j, j < 3 → ps (fun t => cvp (invOut sh 3) nm i t (3 - mxn i t) * ps (fun s => Rr sh s j * (Rr sh s t * nm s)) 3) 3 = if i = j then 1 else 0 := by
  intro i hi j hj
  match i, hi, j, hj with
  | 0, _, 0, _ | 0, _, 1, _ | 0, _, 2, _ | 1, _, 0, _ | 1, _, 1, _ | 1, _, 2, _ | 2, _, 0, _ | 2, _, 1, _ | 2, _, 2, _ =>
    simp [ps, cvp, mxn, invOut, invIn, up2, unit2, Rr]
    grind
end

section
theorem gs_r {m : Nat} {w : Option (Nat → Rat)} {M : Nat → Nat → Rat} : ∀ k, (gs m w M k).r ≤ k
  | 0 => Nat.le_refl _
  | k + 1 => by
    have ih := gs_r (m := m) (w := w) (M := M) k
    show (gsNext _ _ _ _ _).r ≤ _
    unfold gsNext
    split
    · omega
    · show (gs m w M k).r + 1 ≤ _; omega
theorem l7 {m c : Nat} {w : Option (Nat → Rat)} {M : Nat → Nat → Rat} {S : GS} (I : Inv m w M c S) (hr : S.r ≤ 3) {i j : Nat} (hi : i < S.r) (hj : j < S.r) :
    dt S.r (cv S i) (fun t => crs m w (fun i => M (S.pv i)) t j) = if i = j then 1 else 0 := by
  have h1 : dt S.r (cv S i) (fun t => crs m w (fun i => M (S.pv i)) t j) = ps (fun t => cvp (invOut S.sh S.r) S.nm i t (S.r - mxn i t) * ps (fun s => Rr S.sh s j * (Rr S.sh s t * S.nm s)) S.r) S.r :=
    ps_congr fun t ht => by
      show cv S i t * crs m w (fun i => M (S.pv i)) t j = _
      rw [crs_is I ht hj]; rfl
  rw [h1]
  have nz := I.o.nz
  clear h1 I
  obtain ⟨r, pv, e, nm, sh⟩ := S
  dsimp only at *
  have h : r = 0 ∨ r = 1 ∨ r = 2 ∨ r = 3 := by omega
  rcases h with rfl | rfl | rfl | rfl
  · exact absurd hi (Nat.not_lt_zero _)
  · exact cov1 sh nm (nz 0 (by decide)) i hi j hj
  · exact cov2 sh nm (nz 0 (by decide)) (nz 1 (by decide)) i hi j hj
  · exact cov3 sh nm (nz 0 (by decide)) (nz 1 (by decide)) (nz 2 (by decide)) i hi j hj
theorem lawOk {m c : Nat} {w : Option (Nat → Rat)} {M : Nat → Nat → Rat} {y : Nat → Rat} (hwp : WPos m w) (hc : c ≤ 3) : LawOk m c w M y (gs m w M c) := by
  have hw := gvn_pos hwp
  have I := inv_gs hw M c
  have hr : (gs m w M c).r ≤ 3 := Nat.le_trans (gs_r c) hc
  exact ⟨fun i _ => l1 I i, fun k hk i hi => l2 I hk hi, fun i hi j _ => l3 I hi, l4 I, fun k _ => l5 k, fun h i _ j _ => l6 h i j, fun i hi j hj => l7 I hr hi hj, l9 hw I⟩
end

noncomputable def noArgs : PySem.Arguments := { posonlyargs := [], args := [], vararg := none, kwonlyargs := [], kw_defaults := [], kwarg := none, defaults := [] }
noncomputable def fparams (k : Nat) : PySem.Arguments := match PySem.Challenge.pw_no0505_01.main.body[k]? with
  | some (.FunctionDef _ p _ _ _ _ _ _ _ _) => p
  | _ => noArgs
noncomputable def iparams : PySem.Arguments := match (PySem.Challenge.pw_no0505_01.main.body[(18 : Nat)]? : Option Stmt) with
  | some (.ClassDef _ _ _ [.FunctionDef _ p _ _ _ _ _ _ _ _] _ _ _ _ _ _ _) => p
  | _ => noArgs
noncomputable def kfa (P : Params) : Frag := [
  (3, { cls := Value.type "dict", data := Data.dict #[{ hash := PyData.keyHash P (Str.ofString "__name__"), key := Value.str (Str.ofString "__name__") 165, val := Value.str (Str.ofString "law_no0505_01") 521 }, { hash := PyData.keyHash P (Str.ofString "__doc__"), key := Value.str (Str.ofString "__doc__") 166, val := Value.none }, { hash := PyData.keyHash P (Str.ofString "__package__"), key := Value.str (Str.ofString "__package__") 167, val := Value.none }, { hash := PyData.keyHash P (Str.ofString "__loader__"), key := Value.str (Str.ofString "__loader__") 168, val := Value.builtin "__main__.__loader__#opaque" }, { hash := PyData.keyHash P (Str.ofString "__spec__"), key := Value.str (Str.ofString "__spec__") 169, val := Value.none }, { hash := PyData.keyHash P (Str.ofString "__annotations__"), key := Value.str (Str.ofString "__annotations__") 170, val := Value.ref 6 }, { hash := PyData.keyHash P (Str.ofString "__builtins__"), key := Value.str (Str.ofString "__builtins__") 171, val := Value.ref 4 }, { hash := PyData.keyHash P (Str.ofString "__file__"), key := Value.str (Str.ofString "__file__") 173, val := Value.str (Str.ofString "/claim/cut.py") 172 }, { hash := PyData.keyHash P (Str.ofString "__cached__"), key := Value.str (Str.ofString "__cached__") 174, val := Value.none }, { hash := PyData.keyHash P (Str.ofString "CoveError"), key := Value.str (Str.ofString "CoveError") 208, val := Value.ref 24 }, { hash := PyData.keyHash P (Str.ofString "Refusal"), key := Value.str (Str.ofString "Refusal") 233, val := Value.ref 44 }, { hash := PyData.keyHash P (Str.ofString "NAN"), key := Value.str (Str.ofString "NAN") 238, val := Value.ref 47 }, { hash := PyData.keyHash P (Str.ofString "gcd"), key := Value.str (Str.ofString "gcd") 246, val := Value.ref 54 }, { hash := PyData.keyHash P (Str.ofString "make"), key := Value.str (Str.ofString "make") 255, val := Value.ref 61 }, { hash := PyData.keyHash P (Str.ofString "is_na"), key := Value.str (Str.ofString "is_na") 262, val := Value.ref 68 }, { hash := PyData.keyHash P (Str.ofString "is_finite"), key := Value.str (Str.ofString "is_finite") 269, val := Value.ref 75 }, { hash := PyData.keyHash P (Str.ofString "marked"), key := Value.str (Str.ofString "marked") 277, val := Value.ref 82 }, { hash := PyData.keyHash P (Str.ofString "neg"), key := Value.str (Str.ofString "neg") 284, val := Value.ref 89 }, { hash := PyData.keyHash P (Str.ofString "add"), key := Value.str (Str.ofString "add") 292, val := Value.ref 96 }, { hash := PyData.keyHash P (Str.ofString "sub"), key := Value.str (Str.ofString "sub") 300, val := Value.ref 103 }, { hash := PyData.keyHash P (Str.ofString "mul"), key := Value.str (Str.ofString "mul") 308, val := Value.ref 110 }, { hash := PyData.keyHash P (Str.ofString "div"), key := Value.str (Str.ofString "div") 316, val := Value.ref 117 }, { hash := PyData.keyHash P (Str.ofString "ZERO"), key := Value.str (Str.ofString "ZERO") 321, val := Value.ref 118 }, { hash := PyData.keyHash P (Str.ofString "ONE"), key := Value.str (Str.ofString "ONE") 324, val := Value.ref 119 }, { hash := PyData.keyHash P (Str.ofString "Fit"), key := Value.str (Str.ofString "Fit") 366, val := Value.ref 136 }, { hash := PyData.keyHash P (Str.ofString "weighted"), key := Value.str (Str.ofString "weighted") 372, val := Value.ref 145 }, { hash := PyData.keyHash P (Str.ofString "dot"), key := Value.str (Str.ofString "dot") 382, val := Value.ref 152 }, { hash := PyData.keyHash P (Str.ofString "less_multiple"), key := Value.str (Str.ofString "less_multiple") 388, val := Value.ref 157 }, { hash := PyData.keyHash P (Str.ofString "check_finite"), key := Value.str (Str.ofString "check_finite") 397, val := Value.ref 164 }, { hash := PyData.keyHash P (Str.ofString "check_weights"), key := Value.str (Str.ofString "check_weights") 406, val := Value.ref 171 }, { hash := PyData.keyHash P (Str.ofString "orthogonal"), key := Value.str (Str.ofString "orthogonal") 421, val := Value.ref 178 }, { hash := PyData.keyHash P (Str.ofString "back_coefficients"), key := Value.str (Str.ofString "back_coefficients") 431, val := Value.ref 185 }, { hash := PyData.keyHash P (Str.ofString "used_rows"), key := Value.str (Str.ofString "used_rows") 437, val := Value.ref 190 }, { hash := PyData.keyHash P (Str.ofString "fit"), key := Value.str (Str.ofString "fit") 443, val := Value.ref 196 }, { hash := PyData.keyHash P (Str.ofString "rss"), key := Value.str (Str.ofString "rss") 450, val := Value.ref 203 }, { hash := PyData.keyHash P (Str.ofString "hat_rows"), key := Value.str (Str.ofString "hat_rows") 456, val := Value.ref 208 }, { hash := PyData.keyHash P (Str.ofString "leverages"), key := Value.str (Str.ofString "leverages") 469, val := Value.ref 215 }, { hash := PyData.keyHash P (Str.ofString "inverse_shares"), key := Value.str (Str.ofString "inverse_shares") 482, val := Value.ref 222 }, { hash := PyData.keyHash P (Str.ofString "unscaled_covariance"), key := Value.str (Str.ofString "unscaled_covariance") 497, val := Value.ref 229 }, { hash := PyData.keyHash P (Str.ofString "variance"), key := Value.str (Str.ofString "variance") 504, val := Value.ref 236 }, { hash := PyData.keyHash P (Str.ofString "covariance"), key := Value.str (Str.ofString "covariance") 510, val := Value.ref 241 }, { hash := PyData.keyHash P (Str.ofString "f_value"), key := Value.str (Str.ofString "f_value") 520, val := Value.ref 248 }, { hash := PyData.keyHash P (Str.ofString "_law_pick"), key := Value.str (Str.ofString "_law_pick") 532, val := Value.ref 255 }, { hash := PyData.keyHash P (Str.ofString "_law_low"), key := Value.str (Str.ofString "_law_low") 542, val := Value.ref 262 }, { hash := PyData.keyHash P (Str.ofString "_law_add"), key := Value.str (Str.ofString "_law_add") 550, val := Value.ref 269 }, { hash := PyData.keyHash P (Str.ofString "_law_mul"), key := Value.str (Str.ofString "_law_mul") 558, val := Value.ref 276 }, { hash := PyData.keyHash P (Str.ofString "_law_dot"), key := Value.str (Str.ofString "_law_dot") 568, val := Value.ref 283 }, { hash := PyData.keyHash P (Str.ofString "_law_value"), key := Value.str (Str.ofString "_law_value") 576, val := Value.ref 290 }, { hash := PyData.keyHash P (Str.ofString "_law_times"), key := Value.str (Str.ofString "_law_times") 582, val := Value.ref 295 }, { hash := PyData.keyHash P (Str.ofString "law"), key := Value.str (Str.ofString "law") 588, val := Value.ref 300 }] 50 }),
  (47, { cls := Value.type "tuple", data := Data.seq #[Value.int 0 236, Value.int 0 237] }),
  (53, { cls := Value.type "code", data := Data.fields #[Value.str (Str.ofString "gcd") 239, Value.str (Str.ofString "gcd") 240, Value.str (Str.ofString "/claim/cut.py") 241, Value.int 10 0, Value.int 2 0, Value.int 0 0, Value.int 0 0, Value.int 3 0, Value.ref 48, Value.bool true, Value.int 181 0, Value.ref 49, Value.none, Value.ref 50, Value.ref 51, Value.ref 52, Value.int 244 0, Value.int 10 0, Value.str (Str.ofString "/claim/cut.py") 245] }),
  (54, { cls := Value.type "function", data := Data.func { name := Str.ofString "gcd", qualname := Str.ofString "gcd", params := Mine.fparams 5, body := FuncBody.stmts (Mine.fbody 5), scope := Mine.fscope 5, globals := 3, closure := [], defaults := Value.none, kwdefaults := Value.none, pyModule := Value.str (Str.ofString "vectorcove.rational") 234, code := Value.ref 53 } }),
  (60, { cls := Value.type "code", data := Data.fields #[Value.str (Str.ofString "make") 247, Value.str (Str.ofString "make") 248, Value.str (Str.ofString "/claim/cut.py") 249, Value.int 14 0, Value.int 2 0, Value.int 0 0, Value.int 0 0, Value.int 3 0, Value.ref 55, Value.bool true, Value.int 181 0, Value.ref 56, Value.none, Value.ref 57, Value.ref 58, Value.ref 59, Value.int 253 0, Value.int 14 0, Value.str (Str.ofString "/claim/cut.py") 254] }),
  (61, { cls := Value.type "function", data := Data.func { name := Str.ofString "make", qualname := Str.ofString "make", params := Mine.fparams 6, body := FuncBody.stmts (Mine.fbody 6), scope := Mine.fscope 6, globals := 3, closure := [], defaults := Value.none, kwdefaults := Value.none, pyModule := Value.str (Str.ofString "vectorcove.rational") 234, code := Value.ref 60 } }),
  (67, { cls := Value.type "code", data := Data.fields #[Value.str (Str.ofString "is_na") 256, Value.str (Str.ofString "is_na") 257, Value.str (Str.ofString "/claim/cut.py") 258, Value.int 24 0, Value.int 1 0, Value.int 0 0, Value.int 0 0, Value.int 3 0, Value.ref 62, Value.bool true, Value.int 181 0, Value.ref 63, Value.none, Value.ref 64, Value.ref 65, Value.ref 66, Value.int 260 0, Value.int 24 0, Value.str (Str.ofString "/claim/cut.py") 261] }),
  (68, { cls := Value.type "function", data := Data.func { name := Str.ofString "is_na", qualname := Str.ofString "is_na", params := Mine.fparams 7, body := FuncBody.stmts (Mine.fbody 7), scope := Mine.fscope 7, globals := 3, closure := [], defaults := Value.none, kwdefaults := Value.none, pyModule := Value.str (Str.ofString "vectorcove.rational") 234, code := Value.ref 67 } }),
  (74, { cls := Value.type "code", data := Data.fields #[Value.str (Str.ofString "is_finite") 263, Value.str (Str.ofString "is_finite") 264, Value.str (Str.ofString "/claim/cut.py") 265, Value.int 26 0, Value.int 1 0, Value.int 0 0, Value.int 0 0, Value.int 3 0, Value.ref 69, Value.bool true, Value.int 181 0, Value.ref 70, Value.none, Value.ref 71, Value.ref 72, Value.ref 73, Value.int 267 0, Value.int 26 0, Value.str (Str.ofString "/claim/cut.py") 268] }),
  (75, { cls := Value.type "function", data := Data.func { name := Str.ofString "is_finite", qualname := Str.ofString "is_finite", params := Mine.fparams 8, body := FuncBody.stmts (Mine.fbody 8), scope := Mine.fscope 8, globals := 3, closure := [], defaults := Value.none, kwdefaults := Value.none, pyModule := Value.str (Str.ofString "vectorcove.rational") 234, code := Value.ref 74 } })]
noncomputable def kfb (P : Params) : Frag := [
  (81, { cls := Value.type "code", data := Data.fields #[Value.str (Str.ofString "marked") 270, Value.str (Str.ofString "marked") 271, Value.str (Str.ofString "/claim/cut.py") 272, Value.int 28 0, Value.int 2 0, Value.int 0 0, Value.int 0 0, Value.int 3 0, Value.ref 76, Value.bool true, Value.int 181 0, Value.ref 77, Value.none, Value.ref 78, Value.ref 79, Value.ref 80, Value.int 275 0, Value.int 28 0, Value.str (Str.ofString "/claim/cut.py") 276] }),
  (82, { cls := Value.type "function", data := Data.func { name := Str.ofString "marked", qualname := Str.ofString "marked", params := Mine.fparams 9, body := FuncBody.stmts (Mine.fbody 9), scope := Mine.fscope 9, globals := 3, closure := [], defaults := Value.none, kwdefaults := Value.none, pyModule := Value.str (Str.ofString "vectorcove.rational") 234, code := Value.ref 81 } }),
  (88, { cls := Value.type "code", data := Data.fields #[Value.str (Str.ofString "neg") 278, Value.str (Str.ofString "neg") 279, Value.str (Str.ofString "/claim/cut.py") 280, Value.int 32 0, Value.int 1 0, Value.int 0 0, Value.int 0 0, Value.int 3 0, Value.ref 83, Value.bool true, Value.int 181 0, Value.ref 84, Value.none, Value.ref 85, Value.ref 86, Value.ref 87, Value.int 282 0, Value.int 32 0, Value.str (Str.ofString "/claim/cut.py") 283] }),
  (89, { cls := Value.type "function", data := Data.func { name := Str.ofString "neg", qualname := Str.ofString "neg", params := Mine.fparams 10, body := FuncBody.stmts (Mine.fbody 10), scope := Mine.fscope 10, globals := 3, closure := [], defaults := Value.none, kwdefaults := Value.none, pyModule := Value.str (Str.ofString "vectorcove.rational") 234, code := Value.ref 88 } }),
  (95, { cls := Value.type "code", data := Data.fields #[Value.str (Str.ofString "add") 285, Value.str (Str.ofString "add") 286, Value.str (Str.ofString "/claim/cut.py") 287, Value.int 36 0, Value.int 2 0, Value.int 0 0, Value.int 0 0, Value.int 3 0, Value.ref 90, Value.bool true, Value.int 181 0, Value.ref 91, Value.none, Value.ref 92, Value.ref 93, Value.ref 94, Value.int 290 0, Value.int 36 0, Value.str (Str.ofString "/claim/cut.py") 291] }),
  (96, { cls := Value.type "function", data := Data.func { name := Str.ofString "add", qualname := Str.ofString "add", params := Mine.fparams 11, body := FuncBody.stmts (Mine.fbody 11), scope := Mine.fscope 11, globals := 3, closure := [], defaults := Value.none, kwdefaults := Value.none, pyModule := Value.str (Str.ofString "vectorcove.rational") 234, code := Value.ref 95 } }),
  (102, { cls := Value.type "code", data := Data.fields #[Value.str (Str.ofString "sub") 293, Value.str (Str.ofString "sub") 294, Value.str (Str.ofString "/claim/cut.py") 295, Value.int 46 0, Value.int 2 0, Value.int 0 0, Value.int 0 0, Value.int 3 0, Value.ref 97, Value.bool true, Value.int 181 0, Value.ref 98, Value.none, Value.ref 99, Value.ref 100, Value.ref 101, Value.int 298 0, Value.int 46 0, Value.str (Str.ofString "/claim/cut.py") 299] }),
  (103, { cls := Value.type "function", data := Data.func { name := Str.ofString "sub", qualname := Str.ofString "sub", params := Mine.fparams 12, body := FuncBody.stmts (Mine.fbody 12), scope := Mine.fscope 12, globals := 3, closure := [], defaults := Value.none, kwdefaults := Value.none, pyModule := Value.str (Str.ofString "vectorcove.rational") 234, code := Value.ref 102 } }),
  (109, { cls := Value.type "code", data := Data.fields #[Value.str (Str.ofString "mul") 301, Value.str (Str.ofString "mul") 302, Value.str (Str.ofString "/claim/cut.py") 303, Value.int 48 0, Value.int 2 0, Value.int 0 0, Value.int 0 0, Value.int 3 0, Value.ref 104, Value.bool true, Value.int 181 0, Value.ref 105, Value.none, Value.ref 106, Value.ref 107, Value.ref 108, Value.int 306 0, Value.int 48 0, Value.str (Str.ofString "/claim/cut.py") 307] }),
  (110, { cls := Value.type "function", data := Data.func { name := Str.ofString "mul", qualname := Str.ofString "mul", params := Mine.fparams 13, body := FuncBody.stmts (Mine.fbody 13), scope := Mine.fscope 13, globals := 3, closure := [], defaults := Value.none, kwdefaults := Value.none, pyModule := Value.str (Str.ofString "vectorcove.rational") 234, code := Value.ref 109 } })]
noncomputable def kfc (P : Params) : Frag := [
  (116, { cls := Value.type "code", data := Data.fields #[Value.str (Str.ofString "div") 309, Value.str (Str.ofString "div") 310, Value.str (Str.ofString "/claim/cut.py") 311, Value.int 52 0, Value.int 2 0, Value.int 0 0, Value.int 0 0, Value.int 3 0, Value.ref 111, Value.bool true, Value.int 181 0, Value.ref 112, Value.none, Value.ref 113, Value.ref 114, Value.ref 115, Value.int 314 0, Value.int 52 0, Value.str (Str.ofString "/claim/cut.py") 315] }),
  (117, { cls := Value.type "function", data := Data.func { name := Str.ofString "div", qualname := Str.ofString "div", params := Mine.fparams 14, body := FuncBody.stmts (Mine.fbody 14), scope := Mine.fscope 14, globals := 3, closure := [], defaults := Value.none, kwdefaults := Value.none, pyModule := Value.str (Str.ofString "vectorcove.rational") 234, code := Value.ref 116 } }),
  (118, { cls := Value.type "tuple", data := Data.seq #[Value.int 0 319, Value.int 1 320] }),
  (119, { cls := Value.type "tuple", data := Data.seq #[Value.int 1 322, Value.int 1 323] }),
  (132, { cls := Value.type "code", data := Data.fields #[Value.str (Str.ofString "__init__") 337, Value.str (Str.ofString "Fit.__init__") 338, Value.str (Str.ofString "/claim/cut.py") 339, Value.int 65 0, Value.int 5 0, Value.int 0 0, Value.int 0 0, Value.int 3 0, Value.ref 127, Value.bool true, Value.int 181 0, Value.ref 128, Value.none, Value.ref 129, Value.ref 130, Value.ref 131, Value.int 345 0, Value.int 65 0, Value.str (Str.ofString "/claim/cut.py") 346] }),
  (133, { cls := Value.type "function", data := Data.func { name := Str.ofString "__init__", qualname := Str.ofString "Fit.__init__", params := Mine.iparams, body := FuncBody.stmts Mine.ibody, scope := Mine.iscope, globals := 3, closure := [], defaults := Value.none, kwdefaults := Value.none, pyModule := Value.str (Str.ofString "vectorcove.lsfit") 317, code := Value.ref 132 } }),
  (135, { cls := Value.type "dict", data := Data.dict #[{ hash := PyData.keyHash P (Str.ofString "__module__"), key := Value.str (Str.ofString "__module__") 332, val := Value.str (Str.ofString "vectorcove.lsfit") 317 }, { hash := PyData.keyHash P (Str.ofString "__firstlineno__"), key := Value.str (Str.ofString "__firstlineno__") 336, val := Value.int 63 335 }, { hash := PyData.keyHash P (Str.ofString "__init__"), key := Value.str (Str.ofString "__init__") 347, val := Value.ref 133 }, { hash := PyData.keyHash P (Str.ofString "__static_attributes__"), key := Value.str (Str.ofString "__static_attributes__") 359, val := Value.ref 134 }, { hash := PyData.keyHash P (Str.ofString "__dict__"), key := Value.str (Str.ofString "__dict__") 361, val := Value.ref 137 }, { hash := PyData.keyHash P (Str.ofString "__weakref__"), key := Value.str (Str.ofString "__weakref__") 363, val := Value.ref 138 }, { hash := PyData.keyHash P (Str.ofString "__doc__"), key := Value.str (Str.ofString "__doc__") 364, val := Value.none }] 4 }),
  (136, { cls := Value.type "type", data := Data.cls { name := Str.ofString "Fit", bases := [Value.type "object"], mro := [Value.ref 136, Value.type "object"], ns := 135, qualname := Str.ofString "Fit" }, slots := #[none, none, some (Value.str (Str.ofString "Fit") 325), some (Value.str (Str.ofString "Fit") 333), some (Value.builtin "object.__new__"), some (Value.bool true)] }),
  (144, { cls := Value.type "code", data := Data.fields #[Value.str (Str.ofString "weighted") 367, Value.str (Str.ofString "weighted") 368, Value.str (Str.ofString "/claim/cut.py") 369, Value.int 77 0, Value.int 2 0, Value.int 0 0, Value.int 0 0, Value.int 3 0, Value.ref 141, Value.bool true, Value.int 181 0, Value.ref 142, Value.none, Value.none, Value.none, Value.ref 143, Value.int 370 0, Value.int 77 0, Value.str (Str.ofString "/claim/cut.py") 371] }),
  (145, { cls := Value.type "function", data := Data.func { name := Str.ofString "weighted", qualname := Str.ofString "weighted", params := Mine.fparams 19, body := FuncBody.stmts (Mine.fbody 19), scope := Mine.fscope 19, globals := 3, closure := [], defaults := Value.none, kwdefaults := Value.none, pyModule := Value.str (Str.ofString "vectorcove.lsfit") 317, code := Value.ref 144 } })]
noncomputable def kfd (P : Params) : Frag := [
  (151, { cls := Value.type "code", data := Data.fields #[Value.str (Str.ofString "dot") 373, Value.str (Str.ofString "dot") 374, Value.str (Str.ofString "/claim/cut.py") 375, Value.int 81 0, Value.int 2 0, Value.int 0 0, Value.int 0 0, Value.int 3 0, Value.ref 146, Value.bool true, Value.int 181 0, Value.ref 147, Value.none, Value.ref 148, Value.ref 149, Value.ref 150, Value.int 380 0, Value.int 81 0, Value.str (Str.ofString "/claim/cut.py") 381] }),
  (152, { cls := Value.type "function", data := Data.func { name := Str.ofString "dot", qualname := Str.ofString "dot", params := Mine.fparams 20, body := FuncBody.stmts (Mine.fbody 20), scope := Mine.fscope 20, globals := 3, closure := [], defaults := Value.none, kwdefaults := Value.none, pyModule := Value.str (Str.ofString "vectorcove.lsfit") 317, code := Value.ref 151 } }),
  (156, { cls := Value.type "code", data := Data.fields #[Value.str (Str.ofString "less_multiple") 383, Value.str (Str.ofString "less_multiple") 384, Value.str (Str.ofString "/claim/cut.py") 385, Value.int 87 0, Value.int 3 0, Value.int 0 0, Value.int 0 0, Value.int 3 0, Value.ref 153, Value.bool true, Value.int 181 0, Value.ref 154, Value.none, Value.none, Value.none, Value.ref 155, Value.int 386 0, Value.int 87 0, Value.str (Str.ofString "/claim/cut.py") 387] }),
  (157, { cls := Value.type "function", data := Data.func { name := Str.ofString "less_multiple", qualname := Str.ofString "less_multiple", params := Mine.fparams 21, body := FuncBody.stmts (Mine.fbody 21), scope := Mine.fscope 21, globals := 3, closure := [], defaults := Value.none, kwdefaults := Value.none, pyModule := Value.str (Str.ofString "vectorcove.lsfit") 317, code := Value.ref 156 } }),
  (163, { cls := Value.type "code", data := Data.fields #[Value.str (Str.ofString "check_finite") 389, Value.str (Str.ofString "check_finite") 390, Value.str (Str.ofString "/claim/cut.py") 391, Value.int 91 0, Value.int 2 0, Value.int 0 0, Value.int 0 0, Value.int 3 0, Value.ref 158, Value.bool true, Value.int 181 0, Value.ref 159, Value.none, Value.ref 160, Value.ref 161, Value.ref 162, Value.int 395 0, Value.int 91 0, Value.str (Str.ofString "/claim/cut.py") 396] }),
  (164, { cls := Value.type "function", data := Data.func { name := Str.ofString "check_finite", qualname := Str.ofString "check_finite", params := Mine.fparams 22, body := FuncBody.stmts (Mine.fbody 22), scope := Mine.fscope 22, globals := 3, closure := [], defaults := Value.none, kwdefaults := Value.none, pyModule := Value.str (Str.ofString "vectorcove.lsfit") 317, code := Value.ref 163 } }),
  (170, { cls := Value.type "code", data := Data.fields #[Value.str (Str.ofString "check_weights") 398, Value.str (Str.ofString "check_weights") 399, Value.str (Str.ofString "/claim/cut.py") 400, Value.int 95 0, Value.int 2 0, Value.int 0 0, Value.int 0 0, Value.int 3 0, Value.ref 165, Value.bool true, Value.int 181 0, Value.ref 166, Value.none, Value.ref 167, Value.ref 168, Value.ref 169, Value.int 404 0, Value.int 95 0, Value.str (Str.ofString "/claim/cut.py") 405] }),
  (171, { cls := Value.type "function", data := Data.func { name := Str.ofString "check_weights", qualname := Str.ofString "check_weights", params := Mine.fparams 23, body := FuncBody.stmts (Mine.fbody 23), scope := Mine.fscope 23, globals := 3, closure := [], defaults := Value.none, kwdefaults := Value.none, pyModule := Value.str (Str.ofString "vectorcove.lsfit") 317, code := Value.ref 170 } }),
  (177, { cls := Value.type "code", data := Data.fields #[Value.str (Str.ofString "orthogonal") 407, Value.str (Str.ofString "orthogonal") 408, Value.str (Str.ofString "/claim/cut.py") 409, Value.int 101 0, Value.int 2 0, Value.int 0 0, Value.int 0 0, Value.int 3 0, Value.ref 172, Value.bool true, Value.int 181 0, Value.ref 173, Value.none, Value.ref 174, Value.ref 175, Value.ref 176, Value.int 419 0, Value.int 101 0, Value.str (Str.ofString "/claim/cut.py") 420] }),
  (178, { cls := Value.type "function", data := Data.func { name := Str.ofString "orthogonal", qualname := Str.ofString "orthogonal", params := Mine.fparams 24, body := FuncBody.stmts (Mine.fbody 24), scope := Mine.fscope 24, globals := 3, closure := [], defaults := Value.none, kwdefaults := Value.none, pyModule := Value.str (Str.ofString "vectorcove.lsfit") 317, code := Value.ref 177 } })]
noncomputable def kfe (P : Params) : Frag := [
  (184, { cls := Value.type "code", data := Data.fields #[Value.str (Str.ofString "back_coefficients") 422, Value.str (Str.ofString "back_coefficients") 423, Value.str (Str.ofString "/claim/cut.py") 424, Value.int 118 0, Value.int 1 0, Value.int 0 0, Value.int 0 0, Value.int 3 0, Value.ref 179, Value.bool true, Value.int 181 0, Value.ref 180, Value.none, Value.ref 181, Value.ref 182, Value.ref 183, Value.int 429 0, Value.int 118 0, Value.str (Str.ofString "/claim/cut.py") 430] }),
  (185, { cls := Value.type "function", data := Data.func { name := Str.ofString "back_coefficients", qualname := Str.ofString "back_coefficients", params := Mine.fparams 25, body := FuncBody.stmts (Mine.fbody 25), scope := Mine.fscope 25, globals := 3, closure := [], defaults := Value.none, kwdefaults := Value.none, pyModule := Value.str (Str.ofString "vectorcove.lsfit") 317, code := Value.ref 184 } }),
  (189, { cls := Value.type "code", data := Data.fields #[Value.str (Str.ofString "used_rows") 432, Value.str (Str.ofString "used_rows") 433, Value.str (Str.ofString "/claim/cut.py") 434, Value.int 124 0, Value.int 2 0, Value.int 0 0, Value.int 0 0, Value.int 3 0, Value.ref 186, Value.bool true, Value.int 181 0, Value.ref 187, Value.none, Value.none, Value.none, Value.ref 188, Value.int 435 0, Value.int 124 0, Value.str (Str.ofString "/claim/cut.py") 436] }),
  (190, { cls := Value.type "function", data := Data.func { name := Str.ofString "used_rows", qualname := Str.ofString "used_rows", params := Mine.fparams 26, body := FuncBody.stmts (Mine.fbody 26), scope := Mine.fscope 26, globals := 3, closure := [], defaults := Value.none, kwdefaults := Value.none, pyModule := Value.str (Str.ofString "vectorcove.lsfit") 317, code := Value.ref 189 } }),
  (191, { cls := Value.type "tuple", data := Data.seq #[Value.none] }),
  (195, { cls := Value.type "code", data := Data.fields #[Value.str (Str.ofString "fit") 438, Value.str (Str.ofString "fit") 439, Value.str (Str.ofString "/claim/cut.py") 440, Value.int 128 0, Value.int 3 0, Value.int 0 0, Value.int 0 0, Value.int 3 0, Value.ref 192, Value.bool true, Value.int 181 0, Value.ref 193, Value.none, Value.none, Value.none, Value.ref 194, Value.int 441 0, Value.int 128 0, Value.str (Str.ofString "/claim/cut.py") 442] }),
  (196, { cls := Value.type "function", data := Data.func { name := Str.ofString "fit", qualname := Str.ofString "fit", params := Mine.fparams 27, body := FuncBody.stmts (Mine.fbody 27), scope := Mine.fscope 27, globals := 3, closure := [], defaults := Value.ref 191, kwdefaults := Value.none, pyModule := Value.str (Str.ofString "vectorcove.lsfit") 317, code := Value.ref 195 } }),
  (202, { cls := Value.type "code", data := Data.fields #[Value.str (Str.ofString "rss") 444, Value.str (Str.ofString "rss") 445, Value.str (Str.ofString "/claim/cut.py") 446, Value.int 151 0, Value.int 1 0, Value.int 0 0, Value.int 0 0, Value.int 3 0, Value.ref 197, Value.bool true, Value.int 181 0, Value.ref 198, Value.none, Value.ref 199, Value.ref 200, Value.ref 201, Value.int 448 0, Value.int 151 0, Value.str (Str.ofString "/claim/cut.py") 449] }),
  (203, { cls := Value.type "function", data := Data.func { name := Str.ofString "rss", qualname := Str.ofString "rss", params := Mine.fparams 28, body := FuncBody.stmts (Mine.fbody 28), scope := Mine.fscope 28, globals := 3, closure := [], defaults := Value.none, kwdefaults := Value.none, pyModule := Value.str (Str.ofString "vectorcove.lsfit") 317, code := Value.ref 202 } }),
  (207, { cls := Value.type "code", data := Data.fields #[Value.str (Str.ofString "hat_rows") 451, Value.str (Str.ofString "hat_rows") 452, Value.str (Str.ofString "/claim/cut.py") 453, Value.int 153 0, Value.int 2 0, Value.int 0 0, Value.int 0 0, Value.int 3 0, Value.ref 204, Value.bool true, Value.int 181 0, Value.ref 205, Value.none, Value.none, Value.none, Value.ref 206, Value.int 454 0, Value.int 153 0, Value.str (Str.ofString "/claim/cut.py") 455] })]
noncomputable def kff (P : Params) : Frag := [
  (208, { cls := Value.type "function", data := Data.func { name := Str.ofString "hat_rows", qualname := Str.ofString "hat_rows", params := Mine.fparams 29, body := FuncBody.stmts (Mine.fbody 29), scope := Mine.fscope 29, globals := 3, closure := [], defaults := Value.none, kwdefaults := Value.none, pyModule := Value.str (Str.ofString "vectorcove.lsfit") 317, code := Value.ref 207 } }),
  (214, { cls := Value.type "code", data := Data.fields #[Value.str (Str.ofString "leverages") 457, Value.str (Str.ofString "leverages") 458, Value.str (Str.ofString "/claim/cut.py") 459, Value.int 165 0, Value.int 2 0, Value.int 0 0, Value.int 0 0, Value.int 3 0, Value.ref 209, Value.bool true, Value.int 181 0, Value.ref 210, Value.none, Value.ref 211, Value.ref 212, Value.ref 213, Value.int 467 0, Value.int 165 0, Value.str (Str.ofString "/claim/cut.py") 468] }),
  (215, { cls := Value.type "function", data := Data.func { name := Str.ofString "leverages", qualname := Str.ofString "leverages", params := Mine.fparams 30, body := FuncBody.stmts (Mine.fbody 30), scope := Mine.fscope 30, globals := 3, closure := [], defaults := Value.none, kwdefaults := Value.none, pyModule := Value.str (Str.ofString "vectorcove.lsfit") 317, code := Value.ref 214 } }),
  (221, { cls := Value.type "code", data := Data.fields #[Value.str (Str.ofString "inverse_shares") 470, Value.str (Str.ofString "inverse_shares") 471, Value.str (Str.ofString "/claim/cut.py") 472, Value.int 174 0, Value.int 1 0, Value.int 0 0, Value.int 0 0, Value.int 3 0, Value.ref 216, Value.bool true, Value.int 181 0, Value.ref 217, Value.none, Value.ref 218, Value.ref 219, Value.ref 220, Value.int 480 0, Value.int 174 0, Value.str (Str.ofString "/claim/cut.py") 481] }),
  (222, { cls := Value.type "function", data := Data.func { name := Str.ofString "inverse_shares", qualname := Str.ofString "inverse_shares", params := Mine.fparams 31, body := FuncBody.stmts (Mine.fbody 31), scope := Mine.fscope 31, globals := 3, closure := [], defaults := Value.none, kwdefaults := Value.none, pyModule := Value.str (Str.ofString "vectorcove.lsfit") 317, code := Value.ref 221 } }),
  (228, { cls := Value.type "code", data := Data.fields #[Value.str (Str.ofString "unscaled_covariance") 483, Value.str (Str.ofString "unscaled_covariance") 484, Value.str (Str.ofString "/claim/cut.py") 485, Value.int 187 0, Value.int 1 0, Value.int 0 0, Value.int 0 0, Value.int 3 0, Value.ref 223, Value.bool true, Value.int 181 0, Value.ref 224, Value.none, Value.ref 225, Value.ref 226, Value.ref 227, Value.int 495 0, Value.int 187 0, Value.str (Str.ofString "/claim/cut.py") 496] }),
  (229, { cls := Value.type "function", data := Data.func { name := Str.ofString "unscaled_covariance", qualname := Str.ofString "unscaled_covariance", params := Mine.fparams 32, body := FuncBody.stmts (Mine.fbody 32), scope := Mine.fscope 32, globals := 3, closure := [], defaults := Value.none, kwdefaults := Value.none, pyModule := Value.str (Str.ofString "vectorcove.lsfit") 317, code := Value.ref 228 } }),
  (235, { cls := Value.type "code", data := Data.fields #[Value.str (Str.ofString "variance") 498, Value.str (Str.ofString "variance") 499, Value.str (Str.ofString "/claim/cut.py") 500, Value.int 200 0, Value.int 1 0, Value.int 0 0, Value.int 0 0, Value.int 3 0, Value.ref 230, Value.bool true, Value.int 181 0, Value.ref 231, Value.none, Value.ref 232, Value.ref 233, Value.ref 234, Value.int 502 0, Value.int 200 0, Value.str (Str.ofString "/claim/cut.py") 503] }),
  (236, { cls := Value.type "function", data := Data.func { name := Str.ofString "variance", qualname := Str.ofString "variance", params := Mine.fparams 33, body := FuncBody.stmts (Mine.fbody 33), scope := Mine.fscope 33, globals := 3, closure := [], defaults := Value.none, kwdefaults := Value.none, pyModule := Value.str (Str.ofString "vectorcove.lsfit") 317, code := Value.ref 235 } }),
  (240, { cls := Value.type "code", data := Data.fields #[Value.str (Str.ofString "covariance") 505, Value.str (Str.ofString "covariance") 506, Value.str (Str.ofString "/claim/cut.py") 507, Value.int 202 0, Value.int 1 0, Value.int 0 0, Value.int 0 0, Value.int 3 0, Value.ref 237, Value.bool true, Value.int 181 0, Value.ref 238, Value.none, Value.none, Value.none, Value.ref 239, Value.int 508 0, Value.int 202 0, Value.str (Str.ofString "/claim/cut.py") 509] })]
noncomputable def kfg (P : Params) : Frag := [
  (241, { cls := Value.type "function", data := Data.func { name := Str.ofString "covariance", qualname := Str.ofString "covariance", params := Mine.fparams 34, body := FuncBody.stmts (Mine.fbody 34), scope := Mine.fscope 34, globals := 3, closure := [], defaults := Value.none, kwdefaults := Value.none, pyModule := Value.str (Str.ofString "vectorcove.lsfit") 317, code := Value.ref 240 } }),
  (247, { cls := Value.type "code", data := Data.fields #[Value.str (Str.ofString "f_value") 511, Value.str (Str.ofString "f_value") 512, Value.str (Str.ofString "/claim/cut.py") 513, Value.int 205 0, Value.int 4 0, Value.int 0 0, Value.int 0 0, Value.int 3 0, Value.ref 242, Value.bool true, Value.int 181 0, Value.ref 243, Value.none, Value.ref 244, Value.ref 245, Value.ref 246, Value.int 518 0, Value.int 205 0, Value.str (Str.ofString "/claim/cut.py") 519] }),
  (248, { cls := Value.type "function", data := Data.func { name := Str.ofString "f_value", qualname := Str.ofString "f_value", params := Mine.fparams 35, body := FuncBody.stmts (Mine.fbody 35), scope := Mine.fscope 35, globals := 3, closure := [], defaults := Value.none, kwdefaults := Value.none, pyModule := Value.str (Str.ofString "vectorcove.lsfit") 317, code := Value.ref 247 } }),
  (254, { cls := Value.type "code", data := Data.fields #[Value.str (Str.ofString "_law_pick") 523, Value.str (Str.ofString "_law_pick") 524, Value.str (Str.ofString "/claim/cut.py") 525, Value.int 208 0, Value.int 2 0, Value.int 0 0, Value.int 0 0, Value.int 3 0, Value.ref 249, Value.bool true, Value.int 181 0, Value.ref 250, Value.none, Value.ref 251, Value.ref 252, Value.ref 253, Value.int 530 0, Value.int 208 0, Value.str (Str.ofString "/claim/cut.py") 531] }),
  (255, { cls := Value.type "function", data := Data.func { name := Str.ofString "_law_pick", qualname := Str.ofString "_law_pick", params := Mine.fparams 37, body := FuncBody.stmts (Mine.fbody 37), scope := Mine.fscope 37, globals := 3, closure := [], defaults := Value.none, kwdefaults := Value.none, pyModule := Value.str (Str.ofString "law_no0505_01") 521, code := Value.ref 254 } }),
  (261, { cls := Value.type "code", data := Data.fields #[Value.str (Str.ofString "_law_low") 533, Value.str (Str.ofString "_law_low") 534, Value.str (Str.ofString "/claim/cut.py") 535, Value.int 219 0, Value.int 2 0, Value.int 0 0, Value.int 0 0, Value.int 3 0, Value.ref 256, Value.bool true, Value.int 181 0, Value.ref 257, Value.none, Value.ref 258, Value.ref 259, Value.ref 260, Value.int 540 0, Value.int 219 0, Value.str (Str.ofString "/claim/cut.py") 541] }),
  (262, { cls := Value.type "function", data := Data.func { name := Str.ofString "_law_low", qualname := Str.ofString "_law_low", params := Mine.fparams 38, body := FuncBody.stmts (Mine.fbody 38), scope := Mine.fscope 38, globals := 3, closure := [], defaults := Value.none, kwdefaults := Value.none, pyModule := Value.str (Str.ofString "law_no0505_01") 521, code := Value.ref 261 } }),
  (268, { cls := Value.type "code", data := Data.fields #[Value.str (Str.ofString "_law_add") 543, Value.str (Str.ofString "_law_add") 544, Value.str (Str.ofString "/claim/cut.py") 545, Value.int 225 0, Value.int 2 0, Value.int 0 0, Value.int 0 0, Value.int 3 0, Value.ref 263, Value.bool true, Value.int 181 0, Value.ref 264, Value.none, Value.ref 265, Value.ref 266, Value.ref 267, Value.int 548 0, Value.int 225 0, Value.str (Str.ofString "/claim/cut.py") 549] }),
  (269, { cls := Value.type "function", data := Data.func { name := Str.ofString "_law_add", qualname := Str.ofString "_law_add", params := Mine.fparams 39, body := FuncBody.stmts (Mine.fbody 39), scope := Mine.fscope 39, globals := 3, closure := [], defaults := Value.none, kwdefaults := Value.none, pyModule := Value.str (Str.ofString "law_no0505_01") 521, code := Value.ref 268 } }),
  (275, { cls := Value.type "code", data := Data.fields #[Value.str (Str.ofString "_law_mul") 551, Value.str (Str.ofString "_law_mul") 552, Value.str (Str.ofString "/claim/cut.py") 553, Value.int 227 0, Value.int 2 0, Value.int 0 0, Value.int 0 0, Value.int 3 0, Value.ref 270, Value.bool true, Value.int 181 0, Value.ref 271, Value.none, Value.ref 272, Value.ref 273, Value.ref 274, Value.int 556 0, Value.int 227 0, Value.str (Str.ofString "/claim/cut.py") 557] })]
noncomputable def kfh (P : Params) : Frag := [
  (276, { cls := Value.type "function", data := Data.func { name := Str.ofString "_law_mul", qualname := Str.ofString "_law_mul", params := Mine.fparams 40, body := FuncBody.stmts (Mine.fbody 40), scope := Mine.fscope 40, globals := 3, closure := [], defaults := Value.none, kwdefaults := Value.none, pyModule := Value.str (Str.ofString "law_no0505_01") 521, code := Value.ref 275 } }),
  (282, { cls := Value.type "code", data := Data.fields #[Value.str (Str.ofString "_law_dot") 559, Value.str (Str.ofString "_law_dot") 560, Value.str (Str.ofString "/claim/cut.py") 561, Value.int 229 0, Value.int 2 0, Value.int 0 0, Value.int 0 0, Value.int 3 0, Value.ref 277, Value.bool true, Value.int 181 0, Value.ref 278, Value.none, Value.ref 279, Value.ref 280, Value.ref 281, Value.int 566 0, Value.int 229 0, Value.str (Str.ofString "/claim/cut.py") 567] }),
  (283, { cls := Value.type "function", data := Data.func { name := Str.ofString "_law_dot", qualname := Str.ofString "_law_dot", params := Mine.fparams 41, body := FuncBody.stmts (Mine.fbody 41), scope := Mine.fscope 41, globals := 3, closure := [], defaults := Value.none, kwdefaults := Value.none, pyModule := Value.str (Str.ofString "law_no0505_01") 521, code := Value.ref 282 } }),
  (289, { cls := Value.type "code", data := Data.fields #[Value.str (Str.ofString "_law_value") 569, Value.str (Str.ofString "_law_value") 570, Value.str (Str.ofString "/claim/cut.py") 571, Value.int 234 0, Value.int 1 0, Value.int 0 0, Value.int 0 0, Value.int 3 0, Value.ref 284, Value.bool true, Value.int 181 0, Value.ref 285, Value.none, Value.ref 286, Value.ref 287, Value.ref 288, Value.int 574 0, Value.int 234 0, Value.str (Str.ofString "/claim/cut.py") 575] }),
  (290, { cls := Value.type "function", data := Data.func { name := Str.ofString "_law_value", qualname := Str.ofString "_law_value", params := Mine.fparams 42, body := FuncBody.stmts (Mine.fbody 42), scope := Mine.fscope 42, globals := 3, closure := [], defaults := Value.none, kwdefaults := Value.none, pyModule := Value.str (Str.ofString "law_no0505_01") 521, code := Value.ref 289 } }),
  (294, { cls := Value.type "code", data := Data.fields #[Value.str (Str.ofString "_law_times") 577, Value.str (Str.ofString "_law_times") 578, Value.str (Str.ofString "/claim/cut.py") 579, Value.int 237 0, Value.int 2 0, Value.int 0 0, Value.int 0 0, Value.int 3 0, Value.ref 291, Value.bool true, Value.int 181 0, Value.ref 292, Value.none, Value.none, Value.none, Value.ref 293, Value.int 580 0, Value.int 237 0, Value.str (Str.ofString "/claim/cut.py") 581] }),
  (295, { cls := Value.type "function", data := Data.func { name := Str.ofString "_law_times", qualname := Str.ofString "_law_times", params := Mine.fparams 43, body := FuncBody.stmts (Mine.fbody 43), scope := Mine.fscope 43, globals := 3, closure := [], defaults := Value.none, kwdefaults := Value.none, pyModule := Value.str (Str.ofString "law_no0505_01") 521, code := Value.ref 294 } }),
  (299, { cls := Value.type "code", data := Data.fields #[Value.str (Str.ofString "law") 583, Value.str (Str.ofString "law") 584, Value.str (Str.ofString "/claim/cut.py") 585, Value.int 239 0, Value.int 1 0, Value.int 0 0, Value.int 0 0, Value.int 3 0, Value.ref 296, Value.bool true, Value.int 181 0, Value.ref 297, Value.none, Value.none, Value.none, Value.ref 298, Value.int 586 0, Value.int 239 0, Value.str (Str.ofString "/claim/cut.py") 587] }),
  (300, { cls := Value.type "function", data := Data.func { name := Str.ofString "law", qualname := Str.ofString "law", params := Mine.fparams 44, body := FuncBody.stmts (Mine.fbody 44), scope := Mine.fscope 44, globals := 3, closure := [], defaults := Value.none, kwdefaults := Value.none, pyModule := Value.str (Str.ofString "law_no0505_01") 521, code := Value.ref 299 } })]
noncomputable def kf (P : Params) : Frag := kfa P ++ (kfb P ++ (kfc P ++ (kfd P ++ (kfe P ++ (kff P ++ (kfg P ++ (kfh P)))))))
noncomputable def kfs : List Addr := [3, 47, 53, 54, 60, 61, 67, 68, 74, 75, 81, 82, 88, 89, 95, 96, 102, 103, 109, 110, 116, 117, 118, 119, 132, 133, 135, 136, 144, 145, 151, 152, 156, 157, 163, 164, 170, 171, 177, 178, 184, 185, 189, 190, 191, 195, 196, 202, 203, 207, 208, 214, 215, 221, 222, 228, 229, 235, 236, 240, 241, 247, 248, 254, 255, 261, 262, 268, 269, 275, 276, 282, 283, 289, 290, 294, 295, 299, 300]
noncomputable def loo : List Str := [Str.ofString "CoveError", Str.ofString "Refusal", Str.ofString "NAN", Str.ofString "gcd", Str.ofString "make", Str.ofString "is_na", Str.ofString "is_finite", Str.ofString "marked", Str.ofString "neg", Str.ofString "add", Str.ofString "sub", Str.ofString "mul", Str.ofString "div", Str.ofString "ZERO", Str.ofString "ONE", Str.ofString "Fit", Str.ofString "weighted", Str.ofString "dot", Str.ofString "less_multiple", Str.ofString "check_finite", Str.ofString "check_weights", Str.ofString "orthogonal", Str.ofString "back_coefficients", Str.ofString "used_rows", Str.ofString "fit", Str.ofString "rss", Str.ofString "hat_rows", Str.ofString "leverages", Str.ofString "inverse_shares", Str.ofString "unscaled_covariance", Str.ofString "variance", Str.ofString "covariance", Str.ofString "f_value", Str.ofString "_law_pick", Str.ofString "_law_low", Str.ofString "_law_add", Str.ofString "_law_mul", Str.ofString "_law_dot", Str.ofString "_law_value", Str.ofString "_law_times"]
noncomputable def qq : Program := { PySem.Challenge.pw_no0505_01 with main := { PySem.Challenge.pw_no0505_01.main with body := PySem.Challenge.pw_no0505_01.main.body.drop 44 } }
noncomputable def hk : Hook := kHook kf kfs (fun _ => by kernel_rfl)
noncomputable def xt (s : Shared) : Bool := xlAt qq [] s && recOk (RowW.records PySem.Challenge.rw_no0505_01.row.toRowW) s
-- the run's own words are turned to the library's quick twins (importEnds, treeTable, topRun, openSeen) ahead of the one check
theorem left : LeftO PySem.Challenge.pw_no0505_01 qq loo xt hk.obs hk.val 3728 := fun w => by
  unfold openEnds fencedOpening topFrom
  rw [PySem.W.Fast.te10274390034422433532, PySem.W.Fast.te14364793385576792824, PySem.W.Fast.te14082659384304107361, PySem.W.Fast.te4187177175401517315]
  kernel_rfl!

def Pars (scope : Scope) : List Str → Prop
  | [] => True
  | x :: r => (scope.names.lookup x = some .local ∨ (scope.names.lookup x = some .cell ∧ ∀ L, ((cellsFrom (L + 1) scope.names []).lookup x).isSome = true)) ∧ Pars scope r
theorem Pars.all {scope : Scope} : ∀ {names : List Str}, Pars scope names → ∀ x ∈ names, scope.names.lookup x = some .local ∨ (scope.names.lookup x = some .cell ∧ ∀ L, ((cellsFrom (L + 1) scope.names []).lookup x).isSome = true)
  | [], _, x, h => nomatch h
  | y :: r, p, x, h => by
    rcases List.mem_cons.mp h with rfl | h
    · exact p.1
    · exact p.2.all x h
local macro_rules | `(tactic| kst_all) => `(tactic| repeat (first | exact trivial | refine ⟨.inl (by kernel_rfl!), ?_⟩ | refine ⟨.inr ⟨by kernel_rfl!, fun _ => by kernel_rfl!⟩, ?_⟩))
theorem flds_ {C : Cx} {Cl : Addr} {K : Frag} (h1 : plainGet C.K Cl "x" = true) (h2 : hasDictIn C.K Cl = true) (h3 : (fitNames.all fun x => findIn C.K (.ref Cl) x == some none) = true) (h4 : findIn C.K (.ref Cl) "__setattr__" = some (some (.builtin "object.__setattr__"))) (h5 : plainOver C.K Cl = true) :
    ∀ x ∈ fitNames, ClsOk C Cl x := fun x hx => ⟨h1, h2, by have := List.all_eq_true.mp h3 x hx; simpa using this, h4, h5⟩
def fdK (K : Frag) (a : Addr) : FuncData := match K.lookup a with
  | some ⟨_, _, .func fd, _⟩ => fd
  | _ => default
theorem FnAt.ofK {C : Cx} {a : Addr} {names : List Str} {body : List Stmt} {scope : Scope} (X : C.K.In C.H0) (ho : fnIn C.K a = true) (hb : (fdK C.K a).body = .stmts body) (hs : (fdK C.K a).scope = scope)
    (hc : codeIn C.K (fdK C.K a).code (fdK C.K a).qualname = true) (h1 : (fdK C.K a).closure = []) (h2 : (fdK C.K a).globals = mainGlobals) (h3 : (fdK C.K a).builtins = builtinsNs)
    (hbind : ∀ vs : List Value, vs.length = names.length → ∀ S, peek C.K S (bindArgs (fdK C.K a) ⟨vs, []⟩) = some (names.zip vs))
    (k1 : scope.kind = .function) (k2 : scope.isGenerator = false) (k3 : scope.isCoroutine = false) (nod : names.Nodup) (par : Pars scope names) : FnAt C a names body scope := by
  have e : ∃ o, C.K.lookup a = some o ∧ o.data = .func (fdK C.K a) := by
    unfold fnIn at ho
    unfold fdK
    split at ho
    · rename_i c d fd sl h
      rw [h]; exact ⟨_, rfl, rfl⟩
    · cases ho
  obtain ⟨o, ho, hd⟩ := e
  exact ⟨⟨o, fdK C.K a, X _ _ ho, hd, hb, hs, codeRec_of X hc, h1, h2, h3, fun s vs k hl => kp_binds (X.keeps k) (hbind vs hl)⟩, k1, k2, k3, nod, par.all⟩
def mgK (K : Frag) (x : Str) : Option Value := match K.lookup mainGlobals with
  | some ⟨_, _, .dict es _, _⟩ => nsFind es x
  | _ => none
def isDictK (K : Frag) : Bool := match K.lookup mainGlobals with
  | some ⟨_, _, .dict _ _, _⟩ => true
  | _ => false
theorem mgK_of {K : Frag} {h : Heap} {mg : Str → Option Value} (X : K.In h) (g : h.Ns mainGlobals mg) (hd : isDictK K = true) (x : Str) : mg x = mgK K x := by
  obtain ⟨o, es, ep, ho, hdd, _, hf⟩ := g
  unfold isDictK at hd
  unfold mgK
  cases hk : K.lookup mainGlobals with
  | none => rw [hk] at hd; cases hd
  | some o' =>
    have e := X _ _ hk
    rw [ho] at e
    cases e
    obtain ⟨c, d, dat, sl⟩ := o
    rw [hk] at hd
    simp only at hdd
    subst hdd
    exact (hf x).symm
theorem callK {C : Cx} {x : Str} {a : Addr} (M : ∀ x, C.mg x = mgK C.K x) (e : mgK C.K x = some (.ref a)) (k : keepIn C.K (.ref a) = true) : CallOk C x (.ref a) := ⟨.inl ((M x).trans e), Kept_K k⟩
theorem callB {C : Cx} {x : Str} {v : Value} (M : ∀ x, C.mg x = mgK C.K x) (hb : ∀ x : Str, x ≠ "__name__" → C.mb x = bootBuiltins x) (e : mgK C.K x = none) (hx : x ≠ "__name__") (e2 : bootBuiltins x = some v) (k : Kept C v) : CallOk C x v :=
  ⟨.inr ⟨(M x).trans e, (hb x hx).trans e2⟩, k⟩
def pairK (K : Frag) (a : Addr) (i j : Int) : Bool := match K.lookup a with
  | some ⟨.type "tuple", none, .seq ⟨[.int x _, .int y _]⟩ _, ⟨[]⟩⟩ => x == i && y == j
  | _ => false
theorem dataK {C : Cx} {x : Str} {a : Addr} {i j : Int} (M : ∀ x, C.mg x = mgK C.K x) (X : C.K.In C.H0) (e : mgK C.K x = some (.ref a)) (ho : pairK C.K a i j = true) : DataOk C x (.tup [.int i, .int j]) := by
  unfold pairK at ho
  split at ho
  · rename_i u t v t' n h
    simp only [Bool.and_eq_true, beq_iff_eq] at ho
    obtain ⟨rfl, rfl⟩ := ho
    exact ⟨_, (M x).trans e, fun g as k => .tup (k _ _ (X _ _ h)) (.cons (.int _ _) (.cons (.int _ _) .nil))⟩
  · cases ho

def adr : Addrs := {f_gcd := 54, f_make := 61, f_is_na := 68, f_is_finite := 75, f_marked := 82, f_neg := 89, f_add := 96, f_sub := 103, f_mul := 110, f_div := 117, f_weighted := 145, f_dot := 152, f_less_multiple := 157, f_check_finite := 164, f_check_weights := 171, f_orthogonal := 178, f_back_coefficients := 185, f_used_rows := 190, f_fit := 196, f_rss := 203, f_hat_rows := 208, f_leverages := 215, f_inverse_shares := 222, f_unscaled_covariance := 229, f_variance := 236, f_covariance := 241, f_f_value := 248, f_law_pick := 255, f_law_low := 262, f_law_add := 269, f_law_mul := 276, f_law_dot := 283, f_law_value := 290, f_law_times := 295, f_law := 300, Cl := 136, f_init := 133 }

theorem globK {C : Cx} (hK : C.K = kf C.w.params) (X : C.K.In C.H0) (g : C.H0.Ns mainGlobals C.mg) (hb : ∀ x : Str, x ≠ "__name__" → C.mb x = bootBuiltins x) : Glob C adr := by
  obtain ⟨prog, w, H0, os, mg, mb, K⟩ := C
  dsimp only at hK X g hb
  subst hK
  have M : ∀ x, mg x = mgK (kf w.params) x := mgK_of X g (by kernel_rfl!)
  exact {
    c_gcd := callK M (by kernel_rfl!) (by kernel_rfl!)
    d_gcd := FnAt.ofK X (by kernel_rfl!) (by kernel_rfl!) (by kernel_rfl!) (by kernel_rfl!) (by kernel_rfl!) (by kernel_rfl!) (by kernel_rfl!) (fun vs h S => match vs, h with | [v0,v1], _ => by kernel_rfl!) (by kernel_rfl!) (by kernel_rfl!) (by kernel_rfl!) (by decide) (by kst_all)
    c_make := callK M (by kernel_rfl!) (by kernel_rfl!)
    d_make := FnAt.ofK X (by kernel_rfl!) (by kernel_rfl!) (by kernel_rfl!) (by kernel_rfl!) (by kernel_rfl!) (by kernel_rfl!) (by kernel_rfl!) (fun vs h S => match vs, h with | [v0,v1], _ => by kernel_rfl!) (by kernel_rfl!) (by kernel_rfl!) (by kernel_rfl!) (by decide) (by kst_all)
    c_is_na := callK M (by kernel_rfl!) (by kernel_rfl!)
    d_is_na := FnAt.ofK X (by kernel_rfl!) (by kernel_rfl!) (by kernel_rfl!) (by kernel_rfl!) (by kernel_rfl!) (by kernel_rfl!) (by kernel_rfl!) (fun vs h S => match vs, h with | [v0], _ => by kernel_rfl!) (by kernel_rfl!) (by kernel_rfl!) (by kernel_rfl!) (by decide) (by kst_all)
    c_is_finite := callK M (by kernel_rfl!) (by kernel_rfl!)
    d_is_finite := FnAt.ofK X (by kernel_rfl!) (by kernel_rfl!) (by kernel_rfl!) (by kernel_rfl!) (by kernel_rfl!) (by kernel_rfl!) (by kernel_rfl!) (fun vs h S => match vs, h with | [v0], _ => by kernel_rfl!) (by kernel_rfl!) (by kernel_rfl!) (by kernel_rfl!) (by decide) (by kst_all)
    c_marked := callK M (by kernel_rfl!) (by kernel_rfl!)
    d_marked := FnAt.ofK X (by kernel_rfl!) (by kernel_rfl!) (by kernel_rfl!) (by kernel_rfl!) (by kernel_rfl!) (by kernel_rfl!) (by kernel_rfl!) (fun vs h S => match vs, h with | [v0,v1], _ => by kernel_rfl!) (by kernel_rfl!) (by kernel_rfl!) (by kernel_rfl!) (by decide) (by kst_all)
    c_neg := callK M (by kernel_rfl!) (by kernel_rfl!)
    d_neg := FnAt.ofK X (by kernel_rfl!) (by kernel_rfl!) (by kernel_rfl!) (by kernel_rfl!) (by kernel_rfl!) (by kernel_rfl!) (by kernel_rfl!) (fun vs h S => match vs, h with | [v0], _ => by kernel_rfl!) (by kernel_rfl!) (by kernel_rfl!) (by kernel_rfl!) (by decide) (by kst_all)
    c_add := callK M (by kernel_rfl!) (by kernel_rfl!)
    d_add := FnAt.ofK X (by kernel_rfl!) (by kernel_rfl!) (by kernel_rfl!) (by kernel_rfl!) (by kernel_rfl!) (by kernel_rfl!) (by kernel_rfl!) (fun vs h S => match vs, h with | [v0,v1], _ => by kernel_rfl!) (by kernel_rfl!) (by kernel_rfl!) (by kernel_rfl!) (by decide) (by kst_all)
    c_sub := callK M (by kernel_rfl!) (by kernel_rfl!)
    d_sub := FnAt.ofK X (by kernel_rfl!) (by kernel_rfl!) (by kernel_rfl!) (by kernel_rfl!) (by kernel_rfl!) (by kernel_rfl!) (by kernel_rfl!) (fun vs h S => match vs, h with | [v0,v1], _ => by kernel_rfl!) (by kernel_rfl!) (by kernel_rfl!) (by kernel_rfl!) (by decide) (by kst_all)
    c_mul := callK M (by kernel_rfl!) (by kernel_rfl!)
    d_mul := FnAt.ofK X (by kernel_rfl!) (by kernel_rfl!) (by kernel_rfl!) (by kernel_rfl!) (by kernel_rfl!) (by kernel_rfl!) (by kernel_rfl!) (fun vs h S => match vs, h with | [v0,v1], _ => by kernel_rfl!) (by kernel_rfl!) (by kernel_rfl!) (by kernel_rfl!) (by decide) (by kst_all)
    c_div := callK M (by kernel_rfl!) (by kernel_rfl!)
    d_div := FnAt.ofK X (by kernel_rfl!) (by kernel_rfl!) (by kernel_rfl!) (by kernel_rfl!) (by kernel_rfl!) (by kernel_rfl!) (by kernel_rfl!) (fun vs h S => match vs, h with | [v0,v1], _ => by kernel_rfl!) (by kernel_rfl!) (by kernel_rfl!) (by kernel_rfl!) (by decide) (by kst_all)
    c_weighted := callK M (by kernel_rfl!) (by kernel_rfl!)
    d_weighted := FnAt.ofK X (by kernel_rfl!) (by kernel_rfl!) (by kernel_rfl!) (by kernel_rfl!) (by kernel_rfl!) (by kernel_rfl!) (by kernel_rfl!) (fun vs h S => match vs, h with | [v0,v1], _ => by kernel_rfl!) (by kernel_rfl!) (by kernel_rfl!) (by kernel_rfl!) (by decide) (by kst_all)
    c_dot := callK M (by kernel_rfl!) (by kernel_rfl!)
    d_dot := FnAt.ofK X (by kernel_rfl!) (by kernel_rfl!) (by kernel_rfl!) (by kernel_rfl!) (by kernel_rfl!) (by kernel_rfl!) (by kernel_rfl!) (fun vs h S => match vs, h with | [v0,v1], _ => by kernel_rfl!) (by kernel_rfl!) (by kernel_rfl!) (by kernel_rfl!) (by decide) (by kst_all)
    c_less_multiple := callK M (by kernel_rfl!) (by kernel_rfl!)
    d_less_multiple := FnAt.ofK X (by kernel_rfl!) (by kernel_rfl!) (by kernel_rfl!) (by kernel_rfl!) (by kernel_rfl!) (by kernel_rfl!) (by kernel_rfl!) (fun vs h S => match vs, h with | [v0,v1,v2], _ => by kernel_rfl!) (by kernel_rfl!) (by kernel_rfl!) (by kernel_rfl!) (by decide) (by kst_all)
    c_check_finite := callK M (by kernel_rfl!) (by kernel_rfl!)
    d_check_finite := FnAt.ofK X (by kernel_rfl!) (by kernel_rfl!) (by kernel_rfl!) (by kernel_rfl!) (by kernel_rfl!) (by kernel_rfl!) (by kernel_rfl!) (fun vs h S => match vs, h with | [v0,v1], _ => by kernel_rfl!) (by kernel_rfl!) (by kernel_rfl!) (by kernel_rfl!) (by decide) (by kst_all)
    c_check_weights := callK M (by kernel_rfl!) (by kernel_rfl!)
    d_check_weights := FnAt.ofK X (by kernel_rfl!) (by kernel_rfl!) (by kernel_rfl!) (by kernel_rfl!) (by kernel_rfl!) (by kernel_rfl!) (by kernel_rfl!) (fun vs h S => match vs, h with | [v0,v1], _ => by kernel_rfl!) (by kernel_rfl!) (by kernel_rfl!) (by kernel_rfl!) (by decide) (by kst_all)
    c_orthogonal := callK M (by kernel_rfl!) (by kernel_rfl!)
    d_orthogonal := FnAt.ofK X (by kernel_rfl!) (by kernel_rfl!) (by kernel_rfl!) (by kernel_rfl!) (by kernel_rfl!) (by kernel_rfl!) (by kernel_rfl!) (fun vs h S => match vs, h with | [v0,v1], _ => by kernel_rfl!) (by kernel_rfl!) (by kernel_rfl!) (by kernel_rfl!) (by decide) (by kst_all)
    c_back_coefficients := callK M (by kernel_rfl!) (by kernel_rfl!)
    d_back_coefficients := FnAt.ofK X (by kernel_rfl!) (by kernel_rfl!) (by kernel_rfl!) (by kernel_rfl!) (by kernel_rfl!) (by kernel_rfl!) (by kernel_rfl!) (fun vs h S => match vs, h with | [v0], _ => by kernel_rfl!) (by kernel_rfl!) (by kernel_rfl!) (by kernel_rfl!) (by decide) (by kst_all)
    c_used_rows := callK M (by kernel_rfl!) (by kernel_rfl!)
    d_used_rows := FnAt.ofK X (by kernel_rfl!) (by kernel_rfl!) (by kernel_rfl!) (by kernel_rfl!) (by kernel_rfl!) (by kernel_rfl!) (by kernel_rfl!) (fun vs h S => match vs, h with | [v0,v1], _ => by kernel_rfl!) (by kernel_rfl!) (by kernel_rfl!) (by kernel_rfl!) (by decide) (by kst_all)
    c_fit := callK M (by kernel_rfl!) (by kernel_rfl!)
    d_fit := FnAt.ofK X (by kernel_rfl!) (by kernel_rfl!) (by kernel_rfl!) (by kernel_rfl!) (by kernel_rfl!) (by kernel_rfl!) (by kernel_rfl!) (fun vs h S => match vs, h with | [v0,v1,v2], _ => by kernel_rfl!) (by kernel_rfl!) (by kernel_rfl!) (by kernel_rfl!) (by decide) (by kst_all)
    c_rss := callK M (by kernel_rfl!) (by kernel_rfl!)
    d_rss := FnAt.ofK X (by kernel_rfl!) (by kernel_rfl!) (by kernel_rfl!) (by kernel_rfl!) (by kernel_rfl!) (by kernel_rfl!) (by kernel_rfl!) (fun vs h S => match vs, h with | [v0], _ => by kernel_rfl!) (by kernel_rfl!) (by kernel_rfl!) (by kernel_rfl!) (by decide) (by kst_all)
    c_hat_rows := callK M (by kernel_rfl!) (by kernel_rfl!)
    d_hat_rows := FnAt.ofK X (by kernel_rfl!) (by kernel_rfl!) (by kernel_rfl!) (by kernel_rfl!) (by kernel_rfl!) (by kernel_rfl!) (by kernel_rfl!) (fun vs h S => match vs, h with | [v0,v1], _ => by kernel_rfl!) (by kernel_rfl!) (by kernel_rfl!) (by kernel_rfl!) (by decide) (by kst_all)
    c_leverages := callK M (by kernel_rfl!) (by kernel_rfl!)
    d_leverages := FnAt.ofK X (by kernel_rfl!) (by kernel_rfl!) (by kernel_rfl!) (by kernel_rfl!) (by kernel_rfl!) (by kernel_rfl!) (by kernel_rfl!) (fun vs h S => match vs, h with | [v0,v1], _ => by kernel_rfl!) (by kernel_rfl!) (by kernel_rfl!) (by kernel_rfl!) (by decide) (by kst_all)
    c_inverse_shares := callK M (by kernel_rfl!) (by kernel_rfl!)
    d_inverse_shares := FnAt.ofK X (by kernel_rfl!) (by kernel_rfl!) (by kernel_rfl!) (by kernel_rfl!) (by kernel_rfl!) (by kernel_rfl!) (by kernel_rfl!) (fun vs h S => match vs, h with | [v0], _ => by kernel_rfl!) (by kernel_rfl!) (by kernel_rfl!) (by kernel_rfl!) (by decide) (by kst_all)
    c_unscaled_covariance := callK M (by kernel_rfl!) (by kernel_rfl!)
    d_unscaled_covariance := FnAt.ofK X (by kernel_rfl!) (by kernel_rfl!) (by kernel_rfl!) (by kernel_rfl!) (by kernel_rfl!) (by kernel_rfl!) (by kernel_rfl!) (fun vs h S => match vs, h with | [v0], _ => by kernel_rfl!) (by kernel_rfl!) (by kernel_rfl!) (by kernel_rfl!) (by decide) (by kst_all)
    c_variance := callK M (by kernel_rfl!) (by kernel_rfl!)
    d_variance := FnAt.ofK X (by kernel_rfl!) (by kernel_rfl!) (by kernel_rfl!) (by kernel_rfl!) (by kernel_rfl!) (by kernel_rfl!) (by kernel_rfl!) (fun vs h S => match vs, h with | [v0], _ => by kernel_rfl!) (by kernel_rfl!) (by kernel_rfl!) (by kernel_rfl!) (by decide) (by kst_all)
    c_covariance := callK M (by kernel_rfl!) (by kernel_rfl!)
    d_covariance := FnAt.ofK X (by kernel_rfl!) (by kernel_rfl!) (by kernel_rfl!) (by kernel_rfl!) (by kernel_rfl!) (by kernel_rfl!) (by kernel_rfl!) (fun vs h S => match vs, h with | [v0], _ => by kernel_rfl!) (by kernel_rfl!) (by kernel_rfl!) (by kernel_rfl!) (by decide) (by kst_all)
    c_f_value := callK M (by kernel_rfl!) (by kernel_rfl!)
    d_f_value := FnAt.ofK X (by kernel_rfl!) (by kernel_rfl!) (by kernel_rfl!) (by kernel_rfl!) (by kernel_rfl!) (by kernel_rfl!) (by kernel_rfl!) (fun vs h S => match vs, h with | [v0,v1,v2,v3], _ => by kernel_rfl!) (by kernel_rfl!) (by kernel_rfl!) (by kernel_rfl!) (by decide) (by kst_all)
    c_law_pick := callK M (by kernel_rfl!) (by kernel_rfl!)
    d_law_pick := FnAt.ofK X (by kernel_rfl!) (by kernel_rfl!) (by kernel_rfl!) (by kernel_rfl!) (by kernel_rfl!) (by kernel_rfl!) (by kernel_rfl!) (fun vs h S => match vs, h with | [v0,v1], _ => by kernel_rfl!) (by kernel_rfl!) (by kernel_rfl!) (by kernel_rfl!) (by decide) (by kst_all)
    c_law_low := callK M (by kernel_rfl!) (by kernel_rfl!)
    d_law_low := FnAt.ofK X (by kernel_rfl!) (by kernel_rfl!) (by kernel_rfl!) (by kernel_rfl!) (by kernel_rfl!) (by kernel_rfl!) (by kernel_rfl!) (fun vs h S => match vs, h with | [v0,v1], _ => by kernel_rfl!) (by kernel_rfl!) (by kernel_rfl!) (by kernel_rfl!) (by decide) (by kst_all)
    c_law_add := callK M (by kernel_rfl!) (by kernel_rfl!)
    d_law_add := FnAt.ofK X (by kernel_rfl!) (by kernel_rfl!) (by kernel_rfl!) (by kernel_rfl!) (by kernel_rfl!) (by kernel_rfl!) (by kernel_rfl!) (fun vs h S => match vs, h with | [v0,v1], _ => by kernel_rfl!) (by kernel_rfl!) (by kernel_rfl!) (by kernel_rfl!) (by decide) (by kst_all)
    c_law_mul := callK M (by kernel_rfl!) (by kernel_rfl!)
    d_law_mul := FnAt.ofK X (by kernel_rfl!) (by kernel_rfl!) (by kernel_rfl!) (by kernel_rfl!) (by kernel_rfl!) (by kernel_rfl!) (by kernel_rfl!) (fun vs h S => match vs, h with | [v0,v1], _ => by kernel_rfl!) (by kernel_rfl!) (by kernel_rfl!) (by kernel_rfl!) (by decide) (by kst_all)
    c_law_dot := callK M (by kernel_rfl!) (by kernel_rfl!)
    d_law_dot := FnAt.ofK X (by kernel_rfl!) (by kernel_rfl!) (by kernel_rfl!) (by kernel_rfl!) (by kernel_rfl!) (by kernel_rfl!) (by kernel_rfl!) (fun vs h S => match vs, h with | [v0,v1], _ => by kernel_rfl!) (by kernel_rfl!) (by kernel_rfl!) (by kernel_rfl!) (by decide) (by kst_all)
    c_law_value := callK M (by kernel_rfl!) (by kernel_rfl!)
    d_law_value := FnAt.ofK X (by kernel_rfl!) (by kernel_rfl!) (by kernel_rfl!) (by kernel_rfl!) (by kernel_rfl!) (by kernel_rfl!) (by kernel_rfl!) (fun vs h S => match vs, h with | [v0], _ => by kernel_rfl!) (by kernel_rfl!) (by kernel_rfl!) (by kernel_rfl!) (by decide) (by kst_all)
    c_law_times := callK M (by kernel_rfl!) (by kernel_rfl!)
    d_law_times := FnAt.ofK X (by kernel_rfl!) (by kernel_rfl!) (by kernel_rfl!) (by kernel_rfl!) (by kernel_rfl!) (by kernel_rfl!) (by kernel_rfl!) (fun vs h S => match vs, h with | [v0,v1], _ => by kernel_rfl!) (by kernel_rfl!) (by kernel_rfl!) (by kernel_rfl!) (by decide) (by kst_all)
    c_law := callK M (by kernel_rfl!) (by kernel_rfl!)
    d_law := FnAt.ofK X (by kernel_rfl!) (by kernel_rfl!) (by kernel_rfl!) (by kernel_rfl!) (by kernel_rfl!) (by kernel_rfl!) (by kernel_rfl!) (fun vs h S => match vs, h with | [v0], _ => by kernel_rfl!) (by kernel_rfl!) (by kernel_rfl!) (by kernel_rfl!) (by decide) (by kst_all)
    c_len := callB M hb (by kernel_rfl!) (by decide) (by rfl) (Kept_builtin _)
    c_abs := callB M hb (by kernel_rfl!) (by decide) (by rfl) (Kept_builtin _)
    c_max := callB M hb (by kernel_rfl!) (by decide) (by rfl) (Kept_builtin _)
    c_sum := callB M hb (by kernel_rfl!) (by decide) (by rfl) (Kept_builtin _)
    c_range := callB M hb (by kernel_rfl!) (by decide) (by rfl) (Kept_type _)
    c_list := callB M hb (by kernel_rfl!) (by decide) (by rfl) (Kept_type _)
    c_Fit := callK M (by kernel_rfl!) (by kernel_rfl!)
    fields := flds_ (K := kf w.params) (by kernel_rfl!) (by kernel_rfl!) (by kernel_rfl!) (by kernel_rfl!) (by kernel_rfl!)
    makes := by kernel_rfl!
    init := by kernel_rfl!
    initFn := by kernel_rfl!
    d_init := FnAt.ofK X (by kernel_rfl!) (by kernel_rfl!) (by kernel_rfl!) (by kernel_rfl!) (by kernel_rfl!) (by kernel_rfl!) (by kernel_rfl!) (fun vs h S => match vs, h with | [v0,v1,v2,v3,v4], _ => by kernel_rfl!) (by kernel_rfl!) (by kernel_rfl!) (by kernel_rfl!) (by decide) (by kst_all)
    v_ZERO := dataK (a := 118) (i := 0) (j := 1) M X (by kernel_rfl!) (by kernel_rfl!)
    v_ONE := dataK (a := 119) (i := 1) (j := 1) M X (by kernel_rfl!) (by kernel_rfl!)
    v_NAN := dataK (a := 47) (i := 0) (j := 0) M X (by kernel_rfl!) (by kernel_rfl!) }

theorem W.start {C : Cx} {s : Shared} (ok : C.Ok) (hh : s.heap = C.H0) (ho : s.os = C.os) (hg : s.gens = #[]) : W C C.H0.get? [] [] s :=
  ⟨ok, fun _ _ e => e, fun b o e => by rw [hh]; exact e, ho, hg, .nil, rfl, fun n a m h => by simp at h⟩
theorem callerA_lv {n : Nat} (hn : n ≤ 12) : ∀ env, GoodE env → Lv n (callerA.deeper env) := fun env he =>
  ⟨rfl, by show 1 + claimMargin + 1 + 2 * n + 10 ≤ 700; unfold claimMargin; omega, by show 4 + _ + 10 * n + 100 ≤ 9000; omega, env, [], rfl, he⟩
theorem join_core {prog : Program} {w : World} {s : Shared} {mg mb : Str → Option Value} (KX : (kf w.params).In s.heap) (g : s.heap.Ns mainGlobals mg) (b : s.heap.Ns builtinsNs mb) (hb : ∀ x : Str, x ≠ "__name__" → mb x = bootBuiltins x)
    (lim : s.heap.NoLimit) (seer : s.heap.NoSeer) (tree : prog.given.tree = none) (gens : s.gens = #[]) {a : Addr} {vs : List Value} {n : Nat} {ns : List Int} (ha : s.heap.get? a = some (lstObj vs n)) (hI : IntsAre vs ns) (hlen : ns.length ≤ 63)
    (LAW : ∀ (C : Cx), Glob C adr → ∃ tr, ∀ qual L code, Ex C 9 (fenv (fscope 44) qual L adr.f_law code) [("script", .lst (ns.map .int))] [] (fbody 44) (.ret tr (.bool true)))
    {Q E : Value → Shared → Prop} (hQ : ∀ s', (∀ b o, s.heap.get? b = some o → s'.heap.get? b = some o) → s'.os = s.os → s'.gens = #[] → Q (.bool true) s') : wpAny (model prog w) callerA (call (.ref 300) [.ref a]) Q E s := by
  let C : Cx := ⟨prog, w, s.heap, s.os, mg, mb, kf w.params⟩
  have G : Glob C adr := globK (C := C) rfl KX g hb
  have ok : C.Ok := ⟨KX, g, b, lim, seer, tree⟩
  have w0 : W C s.heap.get? [] [] s := W.start ok rfl rfl gens
  have hA : callerA.depth < recursionLimit := by show 1 + claimMargin < _; unfold claimMargin recursionLimit; omega
  have hvs : Ats s.heap.get? [] [.ref a] [.lst (ns.map .int)] := .cons (.lst ha (ats_ints hI)) .nil
  obtain ⟨tr, hbody⟩ := LAW C G
  refine wpAny_call (code_of (C := C) G.d_law rfl hbody hA (callerA_lv (by decide)) w0 hvs fun v s' f h => ?_)
  obtain ⟨g', as', GG, r⟩ := h
  cases f <;> first | exact r.elim | skip
  obtain ⟨rfl, w', av⟩ := r
  cases av
  exact hQ s' (fun b o e => GG.keep b o (by simp) id e) w'.os w'.gens
theorem well_ints {P : Params} {h : Heap} : ∀ {vs : List Value} {ns : List Int}, WellAll P h vs (ofPys (ns.map PyData.int)) → IntsAre vs ns
  | _, [], .nil => .nil
  | _, n :: ns, .cons a r => by cases a; exact .cons _ _ (well_ints r)
theorem ref_inj {a b : Addr} (h : some (Value.ref a) = some (Value.ref b)) : a = b := by cases h; rfl
set_option maxHeartbeats 8000000 in
theorem joined (LAW : ∀ (C : Cx), Glob C adr → ∀ ns : List Int, ns.length ≤ 63 → ∃ tr, ∀ qual L code, Ex C 9 (fenv (fscope 44) qual L adr.f_law code) [("script", .lst (ns.map .int))] [] (fbody 44) (.ret tr (.bool true))) : PySem.Challenge.rw_no0505_01.Holds := by
  w_on
  o_law
  refine holds_open (q := qq) (loose := loo) (Xt := xt) (XP := XL qq []) (Yf := hk.obs) (Ya := hk.val) (YP := hk.says) (N := 3728) left hk.of hk.keeps (fun s e => xl_of s (Bool.and_eq_true_iff.mp e).1) XL.keeps (by rfl) (by rfl) (by rfl) (fun s e => recFacts_of (Bool.and_eq_true_iff.mp e).2) (by rfl) (by first | assumption | decide +kernel) (by decide +kernel) ⟨rfl, rfl, rfl, rfl, rfl, by decide +kernel⟩ ⟨[.list [.int 3, .int 1]], by decide +kernel, by decide +kernel⟩ ?_
  intro w s₀ s₁ mg mb G Y fa o pm cd doc dV kV ho hdd hcd hD hmg hg args vals as hpre hlay hrd hwl hlo
  have KX : (kf w.params).In s₁.heap := kIn_of Y
  clear hdd hcd hD Y
  have T := G.T
  have M : ∀ x, mg x = mgK (kf w.params) x := mgK_of KX T.g (by kernel_rfl!)
  have e : fa = 300 := ref_inj ((hmg.symm.trans (M "law")).trans (show mgK (kf w.params) "law" = some (.ref 300) by kernel_rfl!))
  subst e
  clear hmg
  wrow_args hpre hlay hrd hwl hlo
  rename_i ns _ _ _ _ _ _ _ _ _ _ _ _ wl _ _ _ hlen _
  have wl' : Well w.params s₁.heap _ (.list (ofPys (ns.map PyData.int))) := wl
  cases wl' with
  | list ha hvs =>
  refine join_core KX T.g T.b T.builtins T.nolimit (T.seer (by decide +kernel)) rfl hg ha (well_ints hvs) (by omega) (fun C G => LAW C G ns (by omega)) fun s' keep hos hgens => ?_
  exact GoodW.toG ⟨.inl ⟨_, .bool true, [], rfl, fun _ => rfl, .bool true, by wrow_post, fun _ => ⟨.nil, fun a h => nomatch h⟩⟩, keep, hos, hgens⟩

theorem final : PySem.Challenge.rw_no0505_01.Holds := joined fun C G ns hz => law_spec G hz fun m c w M y h1 h4 hc hwp => lawOk hwp hc
end Mine
theorem PySem.Challenge.cw_no0505_01_holds : PySem.Challenge.rw_no0505_01.Holds :=
  Mine.final
