import PyProof.Rows.All
import Wide.All
import OpenK.AllK
import Wide.FinOn
import Lean
import PySem.Challenge.RW_rr0080_01
open PySem PySem.W PyProof.Rows
set_option Elab.async false
namespace Mine
section
/-! data in the heap without mutable parts -/
mutual
inductive Rd (h : Heap) : Value → PyData → Prop
  | none : Rd h .none .none
  | bool (b : Bool) : Rd h (.bool b) (.bool b)
  | int (i : Int) (t : Tok) : Rd h (.int i t) (.int i)
  | str (x : Str) (t : Tok) : Rd h (.str x t) (.str x)
  | tuple {a : Addr} {o : Obj} {vs : Array Value} {n : Nat} {xs : List PyData} : h.get? a = some o → o.cls = .type "tuple" → o.data = .seq vs n → RdAll h vs.toList xs → Rd h (.ref a) (.tuple xs)
inductive RdAll (h : Heap) : List Value → List PyData → Prop
  | nil : RdAll h [] []
  | cons {v : Value} {vs : List Value} {d : PyData} {ds : List PyData} : Rd h v d → RdAll h vs ds → RdAll h (v :: vs) (d :: ds)
end

def TupKeep (h h' : Heap) : Prop := ∀ a o vs n, h.get? a = some o → o.cls = .type "tuple" → o.data = .seq vs n → h'.get? a = some o
theorem TupKeep.refl (h : Heap) : TupKeep h h := fun _ _ _ _ e _ _ => e
theorem TupKeep.trans {a b c : Heap} (x : TupKeep a b) (y : TupKeep b c) : TupKeep a c := fun q o vs n e1 e2 e3 => y q o vs n (x q o vs n e1 e2 e3) e2 e3

mutual
theorem Rd.mono {h h' : Heap} (k : TupKeep h h') : ∀ {v : Value} {d : PyData}, Rd h v d → Rd h' v d
  | _, _, .none => .none
  | _, _, .bool b => .bool b
  | _, _, .int i t => .int i t
  | _, _, .str x t => .str x t
  | _, _, .tuple e1 e2 e3 r => .tuple (k _ _ _ _ e1 e2 e3) e2 e3 (RdAll.mono k r)
theorem RdAll.mono {h h' : Heap} (k : TupKeep h h') : ∀ {vs : List Value} {ds : List PyData}, RdAll h vs ds → RdAll h' vs ds
  | _, _, .nil => .nil
  | _, _, .cons a b => .cons (Rd.mono k a) (RdAll.mono k b)
end
mutual
theorem Rd.reads {h : Heap} : ∀ {v : Value} {d : PyData}, Rd h v d → Reads h v d []
  | _, _, .none => .none
  | _, _, .bool b => .bool b
  | _, _, .int i t => .int i t
  | _, _, .str x t => .str x t
  | _, _, .tuple e1 e2 e3 r => .tuple e1 e2 e3 (RdAll.reads r)
theorem RdAll.reads {h : Heap} : ∀ {vs : List Value} {ds : List PyData}, RdAll h vs ds → ReadsAll h vs ds []
  | _, _, .nil => .nil
  | _, _, .cons a b => ReadsAll.cons (as := []) (bs := []) (Rd.reads a) (RdAll.reads b)
end
theorem RdAll.length {h : Heap} : ∀ {vs : List Value} {ds : List PyData}, RdAll h vs ds → vs.length = ds.length
  | _, _, .nil => rfl
  | _, _, .cons _ b => by rw [List.length_cons, List.length_cons, RdAll.length b]
theorem RdAll.append {h : Heap} : ∀ {vs ws : List Value} {ds es : List PyData}, RdAll h vs ds → RdAll h ws es → RdAll h (vs ++ ws) (ds ++ es)
  | _, _, _, _, .nil, k => k
  | _, _, _, _, .cons a b, k => .cons a (b.append k)
theorem RdAll.get {h : Heap} : ∀ {vs : List Value} {ds : List PyData}, RdAll h vs ds → ∀ {i : Nat} {d : PyData}, ds[i]? = some d → ∃ v, vs[i]? = some v ∧ Rd h v d
  | _, _, .nil, i, d, e => by simp at e
  | _, _, .cons a b, 0, d, e => by simp at e; subst e; exact ⟨_, rfl, a⟩
  | _, _, .cons a b, i + 1, d, e => by simpa using b.get (i := i) (by simpa using e)
theorem RdAll.get' {h : Heap} : ∀ {vs : List Value} {ds : List PyData}, RdAll h vs ds → ∀ {i : Nat} {v : Value}, vs[i]? = some v → ∃ d, ds[i]? = some d ∧ Rd h v d
  | _, _, .nil, i, d, e => by simp at e
  | _, _, .cons a b, 0, d, e => by simp at e; subst e; exact ⟨_, rfl, a⟩
  | _, _, .cons a b, i + 1, d, e => by simpa using b.get' (i := i) (by simpa using e)
theorem RdAll.take {h : Heap} : ∀ {vs : List Value} {ds : List PyData} (n : Nat), RdAll h vs ds → RdAll h (vs.take n) (ds.take n)
  | _, _, _, .nil => by simpa using RdAll.nil
  | _, _, 0, .cons a b => by simpa using RdAll.nil
  | _, _, n + 1, .cons a b => by simpa using RdAll.cons a (b.take n)
theorem RdAll.drop {h : Heap} : ∀ {vs : List Value} {ds : List PyData} (n : Nat), RdAll h vs ds → RdAll h (vs.drop n) (ds.drop n)
  | _, _, _, .nil => by simpa using RdAll.nil
  | _, _, 0, .cons a b => by simpa using RdAll.cons a b
  | _, _, n + 1, .cons a b => by simpa using b.drop n

/-! abstract values, mutable objects -/
inductive PV where
  | dat (d : PyData)
  | ref (a : Addr)
def Pv (h : Heap) (v : Value) : PV → Prop
  | .dat d => Rd h v d
  | .ref a => v = .ref a
theorem Pv.mono {h h' : Heap} (k : TupKeep h h') {v : Value} : ∀ {p : PV}, Pv h v p → Pv h' v p
  | .dat _, x => Rd.mono k x
  | .ref _, x => x

inductive DR (h : Heap) : List (Str × Value) → List (Str × PV) → Prop
  | nil : DR h [] []
  | cons {k : Str} {v : Value} {p : PV} {kvs : List (Str × Value)} {l : List (Str × PV)} : Pv h v p → DR h kvs l → DR h ((k, v) :: kvs) ((k, p) :: l)
theorem DR.mono {h h' : Heap} (k : TupKeep h h') : ∀ {kvs : List (Str × Value)} {l : List (Str × PV)}, DR h kvs l → DR h' kvs l
  | _, _, .nil => .nil
  | _, _, .cons a b => .cons (a.mono k) (b.mono k)
theorem DR.length {h : Heap} : ∀ {kvs : List (Str × Value)} {l : List (Str × PV)}, DR h kvs l → kvs.length = l.length
  | _, _, .nil => rfl
  | _, _, .cons _ b => by rw [List.length_cons, List.length_cons, b.length]

inductive MO where
  | list (l : List PyData)
  | dict (l : List (Str × PV))
  | cell (p : Option PV)

section
variable (prog : Program) (w : World)
def MOok (h : Heap) (a : Addr) : MO → Prop
  | .list l => ∃ vs, h.PlainList a vs ∧ RdAll h vs.toList l
  | .dict l => ∃ kvs, h.DictOf (strKind prog w) a kvs ∧ DR h kvs l
  | .cell none => h.IsCell a none
  | .cell (some p) => ∃ v, h.IsCell a (some v) ∧ Pv h v p
end

abbrev Mu := Addr → Option MO

structure RB (prog : Program) (w : World) (h₀ h : Heap) (mu : Mu) : Prop where
  base : ∀ b o, h₀.get? b = some o → h.get? b = some o
  ok : ∀ a o, mu a = some o → MOok prog w h a o ∧ h₀.get? a = none

structure Step (mu mu' : Mu) (s s' : Shared) : Prop where
  keep : ∀ a o, s.heap.get? a = some o → mu a = none → s'.heap.get? a = some o
  fresh : ∀ a o, s.heap.get? a = some o → mu a = none → mu' a = none
  gens : s'.gens = s.gens
  os : s'.os = s.os

theorem Step.refl (mu : Mu) (s : Shared) : Step mu mu s s := ⟨fun _ _ e _ => e, fun _ _ _ e => e, rfl, rfl⟩
theorem Step.trans {m1 m2 m3 : Mu} {s1 s2 s3 : Shared} (x : Step m1 m2 s1 s2) (y : Step m2 m3 s2 s3) : Step m1 m3 s1 s3 :=
  ⟨fun a o e m => y.keep a o (x.keep a o e m) (x.fresh a o e m), fun a o e m => y.fresh a o (x.keep a o e m) (x.fresh a o e m), y.gens.trans x.gens, y.os.trans x.os⟩

section
variable {prog : Program} {w : World} {h₀ h : Heap} {mu : Mu}
theorem MOok.obj {a : Addr} {o : MO} (x : MOok prog w h a o) : ∃ ob, h.get? a = some ob ∧ (ob.cls = .type "list" ∨ ob.cls = .type "dict" ∨ ∃ v, ob.data = .cell v) := by
  cases o with
  | list l => obtain ⟨vs, ⟨n, e⟩, _⟩ := x; exact ⟨_, e, .inl rfl⟩
  | dict l => obtain ⟨kvs, ⟨o, es, ep, e, c, _⟩, _⟩ := x; exact ⟨_, e, .inr (.inl c.1)⟩
  | cell p =>
    cases p with
    | none => obtain ⟨o, e, d⟩ := x; exact ⟨o, e, .inr (.inr ⟨_, d⟩)⟩
    | some p => obtain ⟨v, ⟨o, e, d⟩, _⟩ := x; exact ⟨o, e, .inr (.inr ⟨_, d⟩)⟩
theorem RB.tup (R : RB prog w h₀ h mu) {a : Addr} {o : Obj} {vs : Array Value} {n : Nat} (e : h.get? a = some o) (c : o.cls = .type "tuple") (d : o.data = .seq vs n) : mu a = none := by
  cases hm : mu a with
  | none => rfl
  | some m =>
    obtain ⟨ob, e', c'⟩ := (R.ok a m hm).1.obj
    rw [e] at e'
    cases e'
    rcases c' with c' | c' | ⟨v, c'⟩
    · rw [c] at c'; simp at c'
    · rw [c] at c'; simp at c'
    · rw [d] at c'; cases c'
theorem RB.live (R : RB prog w h₀ h mu) {a : Addr} {m : MO} (hm : mu a = some m) : ∃ o, h.get? a = some o :=
  let ⟨o, e, _⟩ := (R.ok a m hm).1.obj; ⟨o, e⟩
theorem MOok.grow {h' : Heap} {a : Addr} {o : MO} (x : MOok prog w h a o) (k : ∀ o, h.get? a = some o → h'.get? a = some o) (t : TupKeep h h') : MOok prog w h' a o := by
  cases o with
  | list l => obtain ⟨vs, ⟨n, e⟩, r⟩ := x; exact ⟨vs, ⟨n, k _ e⟩, r.mono t⟩
  | dict l => obtain ⟨kvs, ⟨o, es, ep, e, q⟩, r⟩ := x; exact ⟨kvs, ⟨o, es, ep, k _ e, q⟩, r.mono t⟩
  | cell p =>
    cases p with
    | none => obtain ⟨o, e, d⟩ := x; exact ⟨o, k _ e, d⟩
    | some p => obtain ⟨v, ⟨o, e, d⟩, q⟩ := x; exact ⟨v, ⟨o, k _ e, d⟩, q.mono t⟩
theorem Step.tup {mu' : Mu} {s s' : Shared} (R : RB prog w h₀ s.heap mu) (st : Step mu mu' s s') : TupKeep s.heap s'.heap :=
  fun a o _ _ e c d => st.keep a o e (R.tup e c d)
end
end
section
structure Gd (h₀ : Heap) (mg mb : Str → Option Value) : Prop where
  g : h₀.Ns mainGlobals mg
  b : h₀.Ns builtinsNs mb
  nolimit : h₀.NoLimit
  builtins : ∀ x, x ≠ ("__name__" : Str) → mb x = bootBuiltins x

structure Cx where
  prog : Program
  w : World
  h : Heap
  mg : Str → Option Value
  mb : Str → Option Value
  fv : Str → Addr × Value × Value × Value
  ok : Gd h mg mb

abbrev Cx.M (C : Cx) : Model := model C.prog C.w

def No : Value → Shared → Prop := fun _ _ => False

structure Room (n : Nat) (A : Around) : Prop where
  handled : A.handled = none
  depth : A.depth + n < recursionLimit
  units : A.units + 3 * n + 100 < cLine

theorem Room.le {n k : Nat} {A : Around} (r : Room n A) (h : k ≤ n) : Room k A := ⟨r.handled, by have := r.depth; omega, by have := r.units; omega⟩
theorem Room.deeper {n : Nat} {A : Around} (r : Room (n + 1) A) (env : Env) : Room n (A.deeper env) :=
  ⟨r.handled, by have := r.depth; show A.depth + 1 + n < _; omega, by have := r.units; show A.units + 3 + 3 * n + 100 < _; omega⟩

structure St where
  loc : List (Str × PV)
  mu : Mu

abbrev Cx.RB (C : Cx) (h : Heap) (mu : Mu) : Prop := Mine.RB C.prog C.w C.h h mu

structure R (C : Cx) (env : Env) (h : Heap) (S : St) : Prop where
  rb : C.RB h S.mu
  own : S.mu env.locals = none
  above : C.h.get? env.locals = none
  ns : ∃ m, h.Ns env.locals m ∧ ∀ x p, S.loc.lookup x = some p → env.kindOf x = some .local → ∃ v, m x = some v ∧ Pv h v p

def Post (C : Cx) (mu : Mu) (s : Shared) (K : PV → Mu → Prop) : Value → Shared → Prop := fun v s' =>
  ∃ p mu', Pv s'.heap v p ∧ C.RB s'.heap mu' ∧ Step mu mu' s s' ∧ K p mu'

def Do (C : Cx) (A : Around) (s : Shared) (mu : Mu) (t : Sem Value) (K : PV → Mu → Prop) : Prop := wpAny C.M A t (Post C mu s K) No s

def Ev (C : Cx) (n : Nat) (env : Env) (t : Sem Value) (S : St) (Q : PV → Mu → Prop) : Prop :=
  ∀ A s, Room n A → R C env s.heap S → Do C A s S.mu t Q
abbrev EvE (C : Cx) (n : Nat) (env : Env) (e : Expr) (S : St) (Q : PV → Mu → Prop) : Prop := Ev C n env (eval e env) S Q

def PostB (C : Cx) (mu : Mu) (s : Shared) (K : Bool → Mu → Prop) : Bool → Shared → Prop := fun b s' =>
  ∃ mu', C.RB s'.heap mu' ∧ Step mu mu' s s' ∧ K b mu'
def EvT (C : Cx) (n : Nat) (env : Env) (e : Expr) (S : St) (Q : Bool → Mu → Prop) : Prop :=
  ∀ A s, Room n A → R C env s.heap S → wpAny C.M A (isTrue e env (eval e env)) (PostB C S.mu s Q) No s

section
variable {C : Cx} {n : Nat} {env : Env} {S : St} {s s1 s' : Shared} {mu mu1 mu' : Mu} {K : PV → Mu → Prop}

theorem Post.trans (st : Step mu mu1 s s1) {v : Value} (x : Post C mu1 s1 K v s') : Post C mu s K v s' :=
  let ⟨p, mu', a, b, c, d⟩ := x; ⟨p, mu', a, b, st.trans c, d⟩
theorem PostB.trans {K : Bool → Mu → Prop} (st : Step mu mu1 s s1) {v : Bool} (x : PostB C mu1 s1 K v s') : PostB C mu s K v s' :=
  let ⟨mu', b, c, d⟩ := x; ⟨mu', b, st.trans c, d⟩
theorem Do.from {A : Around} {t : Sem Value} (st : Step mu mu1 s s1) (h : Do C A s1 mu1 t K) : wpAny C.M A t (Post C mu s K) No s1 :=
  wpAny_mono h (fun _ _ x => x.trans st) fun _ _ x => x

theorem R.step (r : R C env s.heap S) (rb : C.RB s'.heap mu') (st : Step S.mu mu' s s') : R C env s'.heap ⟨S.loc, mu'⟩ := by
  obtain ⟨m, hn, hv⟩ := r.ns
  have tk := st.tup r.rb
  obtain ⟨o, es, ep, ho, q⟩ := id hn
  refine ⟨rb, st.fresh _ _ ho r.own, r.above, ⟨m, ⟨o, es, ep, st.keep _ _ ho r.own, q⟩, fun x p e k => ?_⟩⟩
  obtain ⟨v, a, b⟩ := hv x p e k; exact ⟨v, a, b.mono tk⟩

structure Grow (s s' : Shared) : Prop where
  keep : ∀ b o, s.heap.get? b = some o → s'.heap.get? b = some o
  gens : s'.gens = s.gens
  os : s'.os = s.os
theorem Grow.refl (s : Shared) (tk : Nat) : Grow s { s with toks := tk } := ⟨fun _ _ e => e, rfl, rfl⟩
theorem Grow.push (s : Shared) (o : Obj) (tk : Nat) : Grow s { s with heap := s.heap.push o, toks := tk } :=
  ⟨fun _ _ e => Heap.get?_push_of_some o e, rfl, rfl⟩
theorem Grow.step (g : Grow s s') : Step mu mu s s' := ⟨fun a o e _ => g.keep a o e, fun _ _ _ e => e, g.gens, g.os⟩
theorem Grow.rb (g : Grow s s') (r : C.RB s.heap mu) : C.RB s'.heap mu :=
  ⟨fun b o e => g.keep _ _ (r.base b o e), fun a o e => ⟨(r.ok a o e).1.grow (fun _ h => g.keep _ _ h) (fun a o _ _ e _ _ => g.keep a o e), (r.ok a o e).2⟩⟩
theorem Grow.tup (g : Grow s s') : TupKeep s.heap s'.heap := fun a o _ _ e _ _ => g.keep a o e
theorem Grow.post (g : Grow s s') (r : C.RB s.heap mu) {v : Value} {p : PV} (hv : Pv s'.heap v p) (k : K p mu) : Post C mu s K v s' := ⟨p, mu, hv, g.rb r, g.step, k⟩
theorem Grow.postB {K : Bool → Mu → Prop} (g : Grow s s') (r : C.RB s.heap mu) {b : Bool} (k : K b mu) : PostB C mu s K b s' := ⟨mu, g.rb r, g.step, k⟩
end

/-! names, literals -/
section
variable {C : Cx} {n : Nat} {env : Env} {S : St} {Q : PV → Mu → Prop}

theorem E_loc {loc : List (Str × PV)} {mu₀ : Mu} {x : Str} {pos : Pos} {p : PV} (hl : loc.lookup x = some p) (h : Q p mu₀) (hx : env.kindOf x = some .local := by rfl) (hk : env.scope.kind = .function := by rfl) (hd : (x == ("__debug__" : Str)) = false := by rfl) :
    EvE C n env (.Name x pos) ⟨loc, mu₀⟩ Q := by
  intro A s _ r
  obtain ⟨m, hn, hv⟩ := r.ns
  obtain ⟨v, e, pv⟩ := hv x p hl hx
  exact wpAny_Name (wpAny_loadName_local hk hx hn e ((Grow.refl s s.toks).post r.rb pv h)) hd
theorem E_cell {loc : List (Str × PV)} {mu₀ : Mu} {x : Str} {pos : Pos} {c : Addr} {p : PV} (hc : env.cells.lookup x = some c) (hl : mu₀ c = some (.cell (some p))) (h : Q p mu₀) (hx : env.kindOf x = some .cell := by rfl) (hk : env.scope.kind = .function := by rfl) (hd : (x == ("__debug__" : Str)) = false := by rfl) :
    EvE C n env (.Name x pos) ⟨loc, mu₀⟩ Q := by
  intro A s _ r
  obtain ⟨v, b, pv⟩ := (r.rb.ok _ _ hl).1
  exact wpAny_Name (wpAny_loadName_cell hk hx hc b ((Grow.refl s s.toks).post r.rb pv h)) hd

/-- a global name: any value -/
theorem wp_glob {mu₀ : Mu} {A : Around} {s : Shared} {x : Str} {pos : Pos} {v : Value} {P : Value → Shared → Prop} (rb : C.RB s.heap mu₀) (e : C.mg x = some v) (h : P v s)
    (hg : env.globals = mainGlobals) (hx : env.kindOf x = some .globalImplicit) (hk : env.scope.kind = .function) (hd : (x == ("__debug__" : Str)) = false) : wpAny C.M A (eval (.Name x pos) env) P No s :=
  Calls.Name_function_global hk hx (Calls.loadGlobal_global (hg ▸ C.ok.g.keeps rb.base) e h) hd
theorem wp_blt {mu₀ : Mu} {A : Around} {s : Shared} {x : Str} {pos : Pos} {v : Value} {P : Value → Shared → Prop} (rb : C.RB s.heap mu₀) (e : C.mg x = none) (hv : bootBuiltins x = some v) (hn : x ≠ ("__name__" : Str)) (h : P v s)
    (hg : env.globals = mainGlobals) (hb : env.builtins = builtinsNs) (hx : env.kindOf x = some .globalImplicit) (hk : env.scope.kind = .function) (hd : (x == ("__debug__" : Str)) = false) : wpAny C.M A (eval (.Name x pos) env) P No s :=
  Calls.Name_function_global hk hx (Calls.loadGlobal_builtin (hg ▸ C.ok.g.keeps rb.base) e (hb ▸ C.ok.b.keeps rb.base) ((C.ok.builtins x hn).trans hv) h) hd

theorem E_int {loc : List (Str × PV)} {mu₀ : Mu} {i : Int} {k : Nat} {pos : Pos} (h : Q (.dat (.int i)) mu₀) : EvE C n env (.Constant (.int i) k pos) ⟨loc, mu₀⟩ Q :=
  fun _ s _ r => wpAny_Constant_int ((Grow.refl s _).post r.rb (p := .dat (.int i)) (Rd.int _ _) h)
theorem E_str {loc : List (Str × PV)} {mu₀ : Mu} {x : Str} {k : Nat} {pos : Pos} (h : Q (.dat (.str x)) mu₀) : EvE C n env (.Constant (.str x) k pos) ⟨loc, mu₀⟩ Q :=
  fun _ s _ r => Calls.Constant_str ((Grow.refl s _).post r.rb (p := .dat (.str x)) (Rd.str _ _) h)
theorem E_bool {loc : List (Str × PV)} {mu₀ : Mu} {b : Bool} {k : Nat} {pos : Pos} (h : Q (.dat (.bool b)) mu₀) : EvE C n env (.Constant (.bool b) k pos) ⟨loc, mu₀⟩ Q :=
  fun _ s _ r => wpAny_Constant_bool ((Grow.refl s s.toks).post r.rb (p := .dat (.bool b)) (Rd.bool _) h)
theorem E_none {loc : List (Str × PV)} {mu₀ : Mu} {k : Nat} {pos : Pos} (h : Q (.dat .none) mu₀) : EvE C n env (.Constant .none k pos) ⟨loc, mu₀⟩ Q :=
  fun _ s _ r => wpAny_Constant_none ((Grow.refl s s.toks).post r.rb (p := .dat .none) Rd.none h)
end

/-! two operands -/
def Op2 (C : Cx) (n : Nat) (mu : Mu) (t : Value → Value → Sem Value) (p1 p2 : PV) (K : PV → Mu → Prop) : Prop :=
  ∀ A s v1 v2, Room n A → C.RB s.heap mu → Pv s.heap v1 p1 → Pv s.heap v2 p2 → Do C A s mu (t v1 v2) K

abbrev BoolK (Q : Bool → Mu → Prop) : PV → Mu → Prop := fun p mu => ∃ b, p = .dat (.bool b) ∧ Q b mu
abbrev OpK (C : Cx) (n : Nat) (t : Value → Value → Sem Value) (p1 : PV) (Q : PV → Mu → Prop) : PV → Mu → Prop := fun p2 mu2 => Op2 C n mu2 t p1 p2 Q
abbrev BinK (C : Cx) (n : Nat) (env : Env) (r : Expr) (loc : List (Str × PV)) (t : Value → Value → Sem Value) (Q : PV → Mu → Prop) : PV → Mu → Prop := fun p1 mu1 => EvE C n env r ⟨loc, mu1⟩ (OpK C n t p1 Q)
section
variable {C : Cx} {n : Nat} {env : Env} {S : St} {Q : PV → Mu → Prop}

theorem E_bin {loc : List (Str × PV)} {mu₀ : Mu} {l r : Expr} {op : Operator} {pos : Pos}
    (h : EvE C n env l ⟨loc, mu₀⟩ (BinK C n env r loc (binaryOp op) Q)) : EvE C n env (.BinOp l op r pos) ⟨loc, mu₀⟩ Q := by
  intro A s hA hR
  refine wpAny_BinOp (wpAny_mono (h A s hA hR) ?_ fun _ _ x => x)
  rintro v1 s1 ⟨p1, mu1, hv1, rb1, st1, h1⟩
  refine wpAny_mono (h1 A s1 hA (hR.step rb1 st1)) ?_ fun _ _ x => x
  rintro v2 s2 ⟨p2, mu2, hv2, rb2, st2, h2⟩
  exact (h2 A s2 v1 v2 hA rb2 (hv1.mono (st2.tup rb1)) hv2).from (st1.trans st2)

theorem E_cmp {loc : List (Str × PV)} {mu₀ : Mu} {l r : Expr} {op : CmpOp} {pos : Pos}
    (h : EvE C n env l ⟨loc, mu₀⟩ (BinK C n env r loc (compareOp op) Q)) (hb : behindInMarks op r = false := by rfl) : EvE C n env (.Compare l [op] [r] pos) ⟨loc, mu₀⟩ Q := by
  intro A s hA hR
  refine wpAny_Compare1 (wpAny_mono (h A s hA hR) ?_ fun _ _ x => x) hb
  rintro v1 s1 ⟨p1, mu1, hv1, rb1, st1, h1⟩
  refine wpAny_mono (h1 A s1 hA (hR.step rb1 st1)) ?_ fun _ _ x => x
  rintro v2 s2 ⟨p2, mu2, hv2, rb2, st2, h2⟩
  exact (h2 A s2 v1 v2 hA rb2 (hv1.mono (st2.tup rb1)) hv2).from (st1.trans st2)

abbrev IfE (C : Cx) (n : Nat) (env : Env) (body orelse : Expr) (loc : List (Str × PV)) (Q : PV → Mu → Prop) : Bool → Mu → Prop := fun b mu => if b = true then EvE C n env body ⟨loc, mu⟩ Q else EvE C n env orelse ⟨loc, mu⟩ Q
theorem E_if {loc : List (Str × PV)} {mu₀ : Mu} {test body orelse : Expr} {pos : Pos} (h : EvT C n env test ⟨loc, mu₀⟩ (IfE C n env body orelse loc Q)) : EvE C n env (.IfExp test body orelse pos) ⟨loc, mu₀⟩ Q := by
  intro A s hA hR
  refine wpAny_IfExp (wpAny_mono (h A s hA hR) ?_ fun _ _ x => x)
  rintro b s1 ⟨mu1, rb1, st1, h1⟩
  change if _ = true then _ else _ at h1
  split
  · rename_i e; rw [if_pos e] at h1; exact (h1 A s1 hA (hR.step rb1 st1)).from st1
  · rename_i e; rw [if_neg e] at h1; exact (h1 A s1 hA (hR.step rb1 st1)).from st1

theorem T_cmp {loc : List (Str × PV)} {mu₀ : Mu} {l r : Expr} {op : CmpOp} {pos : Pos} {Q : Bool → Mu → Prop}
    (h : EvE C n env l ⟨loc, mu₀⟩ (BinK C n env r loc (compareOp op) (BoolK Q))) (hb : behindInMarks op r = false := by rfl) : EvT C n env (.Compare l [op] [r] pos) ⟨loc, mu₀⟩ Q := by
  intro A s hA hR
  refine wpAny_isTrue_Compare1 (wpAny_mono (h A s hA hR) ?_ fun _ _ x => x) hb
  rintro v1 s1 ⟨p1, mu1, hv1, rb1, st1, h1⟩
  refine wpAny_mono (h1 A s1 hA (hR.step rb1 st1)) ?_ fun _ _ x => x
  rintro v2 s2 ⟨p2, mu2, hv2, rb2, st2, h2⟩
  refine wpAny_mono (h2 A s2 v1 v2 hA rb2 (hv1.mono (st2.tup rb1)) hv2) ?_ fun _ _ x => x
  rintro v s3 ⟨p, mu3, hv, rb3, st3, b, rfl, hq⟩
  cases hv
  exact wpAny_truthy_bool ⟨mu3, rb3, (st1.trans st2).trans st3, hq⟩
end
end
section
def upd (mu : Mu) (a : Addr) (o : MO) : Mu := fun b => if b = a then some o else mu b
theorem upd_self (mu : Mu) (a : Addr) (o : MO) : upd mu a o a = some o := by simp [upd]
theorem upd_ne {mu : Mu} {a b : Addr} (o : MO) (h : b ≠ a) : upd mu a o b = mu b := by simp [upd, h]

def PV.isD : PV → Bool
  | .dat _ => true
  | .ref _ => false
def PV.toD : PV → PyData
  | .dat d => d
  | .ref _ => .none

inductive PvAll (h : Heap) : List Value → List PV → Prop
  | nil : PvAll h [] []
  | cons {v : Value} {p : PV} {vs : List Value} {ps : List PV} : Pv h v p → PvAll h vs ps → PvAll h (v :: vs) (p :: ps)
theorem PvAll.mono {h h' : Heap} (k : TupKeep h h') : ∀ {vs : List Value} {ps : List PV}, PvAll h vs ps → PvAll h' vs ps
  | _, _, .nil => .nil
  | _, _, .cons a b => .cons (a.mono k) (b.mono k)
theorem PvAll.rd {h : Heap} : ∀ {vs : List Value} {ps : List PV}, PvAll h vs ps → ps.all PV.isD = true → RdAll h vs (ps.map PV.toD)
  | _, _, .nil, _ => .nil
  | _, _, .cons (p := .dat d) a b, e => .cons a (b.rd (by simpa [PV.isD] using e))
  | _, _, .cons (p := .ref d) a b, e => by simp [PV.isD] at e
theorem PvAll.length {h : Heap} : ∀ {vs : List Value} {ps : List PV}, PvAll h vs ps → vs.length = ps.length
  | _, _, .nil => rfl
  | _, _, .cons _ b => by rw [List.length_cons, List.length_cons, b.length]

section
variable {C : Cx} {n : Nat} {env : Env} {S : St} {Q : PV → Mu → Prop} {K : PV → Mu → Prop} {mu : Mu} {s : Shared}

theorem RB.noSize (r : C.RB s.heap mu) : mu s.heap.objs.size = none := by
  cases hm : mu s.heap.objs.size with
  | none => rfl
  | some o => obtain ⟨_, e⟩ := RB.live r hm; exact absurd (Heap.lt_size e) (Nat.lt_irrefl _)
theorem RB.noBase (r : C.RB s.heap mu) {a : Addr} (ha : s.heap.get? a = none) : C.h.get? a = none := by
  cases q : C.h.get? a with
  | none => rfl
  | some o => have := r.base _ _ q; rw [ha] at this; cases this
theorem noLive (h : Heap) : h.get? h.objs.size = none := by
  cases q : h.get? h.objs.size with
  | none => rfl
  | some o => exact absurd (Heap.lt_size q) (Nat.lt_irrefl _)

/-- a fresh mutable object -/
theorem post_new {s' : Shared} {a : Addr} {o : MO} (r : C.RB s.heap mu) (ha : s.heap.get? a = none) (hk : ∀ b o, s.heap.get? b = some o → s'.heap.get? b = some o) (ho : MOok C.prog C.w s'.heap a o)
    (hg : s'.gens = s.gens) (hs : s'.os = s.os) (h : ∀ a, mu a = none → K (.ref a) (upd mu a o)) : Post C mu s K (.ref a) s' := by
  have hm : mu a = none := by
    cases hm : mu a with
    | none => rfl
    | some o => obtain ⟨_, e⟩ := RB.live r hm; rw [ha] at e; cases e
  have g : Grow s s' := ⟨hk, hg, hs⟩
  refine ⟨.ref a, upd mu a o, rfl, ⟨fun b o e => hk _ _ (r.base b o e), fun b ob e => ?_⟩, ⟨fun b ob e _ => hk _ _ e, fun b ob e m => ?_, hg, hs⟩, h a hm⟩
  · unfold upd at e
    split at e
    · rename_i q; subst q; cases e; exact ⟨ho, RB.noBase r ha⟩
    · exact (g.rb r).ok b ob e
  · have : b ≠ a := fun q => by rw [q, ha] at e; cases e
    rw [upd_ne _ this]; exact m

theorem O_add_int {a b : Int} (h : K (.dat (.int (a + b))) mu) : Op2 C n mu (binaryOp .Add) (.dat (.int a)) (.dat (.int b)) K := by
  intro A s v1 v2 _ r h1 h2
  cases h1; cases h2
  exact add_int ((Grow.refl s _).post r (p := .dat (.int _)) (Rd.int _ _) h)
theorem O_sub_int {a b : Int} (h : K (.dat (.int (a - b))) mu) : Op2 C n mu (binaryOp .Sub) (.dat (.int a)) (.dat (.int b)) K := by
  intro A s v1 v2 _ r h1 h2
  cases h1; cases h2
  exact sub_int ((Grow.refl s _).post r (p := .dat (.int _)) (Rd.int _ _) h)
theorem bits_le {a : Int} (h : a.natAbs < 2 ^ 63) : Builtin.Int.intBits a ≤ 64 := by
  unfold Builtin.Int.intBits
  split
  · omega
  · rename_i q
    have h0 : a.natAbs ≠ 0 := by
      intro e; apply q; have : a = 0 := by omega
      rw [this]; rfl
    have := (Nat.log2_lt h0).mpr h
    omega
theorem O_mul_int {a b : Int} (ha : a.natAbs < 2 ^ 63) (h : K (.dat (.int (a * b))) mu) : Op2 C n mu (binaryOp .Mult) (.dat (.int a)) (.dat (.int b)) K := by
  intro A s v1 v2 _ r h1 h2
  cases h1; cases h2
  exact mul_int ((Grow.refl s _).post r (p := .dat (.int _)) (Rd.int _ _) h) (IntMulOk.of_left (bits_le ha))
theorem O_mod_int {a b : Int} (hb : b ≠ 0) (h : K (.dat (.int (Int.fmod a b))) mu) : Op2 C n mu (binaryOp .Mod) (.dat (.int a)) (.dat (.int b)) K := by
  intro A s v1 v2 _ r h1 h2
  cases h1; cases h2
  exact mod_int' hb ((Grow.refl s _).post r (p := .dat (.int _)) (Rd.int _ _) h)
theorem O_add_str {x y : Str} (hs : x.length + y.length ≤ sizeLine) (h : K (.dat (.str (x ++ y))) mu) : Op2 C n mu (binaryOp .Add) (.dat (.str x)) (.dat (.str y)) K := by
  intro A s v1 v2 _ r h1 h2
  cases h1; cases h2
  exact add_str (fun t tk => (Grow.refl s _).post r (p := .dat (.str _)) (Rd.str _ _) h) hs
theorem O_add_tup {xs ys : List PyData} (hs : xs.length + ys.length ≤ sizeLine) (h : K (.dat (.tuple (xs ++ ys))) mu) : Op2 C n mu (binaryOp .Add) (.dat (.tuple xs)) (.dat (.tuple ys)) K := by
  intro A s v1 v2 _ r h1 h2
  cases h1 with
  | tuple ho hc hd hr =>
  rename_i t o vs k
  cases h2 with
  | tuple ho2 hc2 hd2 hr2 =>
  rename_i b o2 ws k2
  obtain ⟨cls, dd, data, sl⟩ := o
  obtain ⟨cls2, dd2, data2, sl2⟩ := o2
  simp only at hc hd hc2 hd2
  subst hc hd hc2 hd2
  have e1 : vs.size = xs.length := by rw [← Array.length_toList]; exact hr.length
  have e2 : ws.size = ys.length := by rw [← Array.length_toList]; exact hr2.length
  by_cases hv : vs.isEmpty = true
  · have hx : xs = [] := by rw [← List.length_eq_zero_iff, ← e1]; simpa using hv
    subst hx
    exact concat_meets ⟨_, ho, rfl⟩ ⟨_, ho2, rfl⟩ noFill_tuple_add seq_tuple_add PySem.F.slot_tuple_add PySem.F.entry_tuple_add (PySem.F.args_tuple_add_2 _ _)
      (tuple_addW0 t b vs ws k k2 dd dd2 sl sl2 hv) ⟨ho, ho2, (Grow.refl s s.toks).post r (p := .dat (.tuple _)) (Rd.tuple ho2 rfl rfl hr2) h⟩
  · by_cases hw : ws.isEmpty = true
    · have hx : ys = [] := by rw [← List.length_eq_zero_iff, ← e2]; simpa using hw
      subst hx
      rw [List.append_nil] at h
      exact concat_meets ⟨_, ho, rfl⟩ ⟨_, ho2, rfl⟩ noFill_tuple_add seq_tuple_add PySem.F.slot_tuple_add PySem.F.entry_tuple_add (PySem.F.args_tuple_add_2 _ _)
        (tuple_addW1 t b vs ws k k2 dd dd2 sl sl2 hv hw) ⟨ho, ho2, (Grow.refl s s.toks).post r (p := .dat (.tuple _)) (Rd.tuple ho rfl rfl hr) h⟩
    · have g := Grow.push s { cls := .type "tuple", data := .seq (vs ++ ws) } s.toks
      exact concat_meets ⟨_, ho, rfl⟩ ⟨_, ho2, rfl⟩ noFill_tuple_add seq_tuple_add PySem.F.slot_tuple_add PySem.F.entry_tuple_add (PySem.F.args_tuple_add_2 _ _)
        (tuple_addW2 t b vs ws k k2 dd dd2 sl sl2 hv hw (by rw [e1, e2]; exact hs)) ⟨ho, ho2, g.post r (p := .dat (.tuple _)) (Rd.tuple (Heap.get?_push_size _ rfl) rfl rfl (by rw [Array.toList_append]; exact (hr.append hr2).mono g.tup)) h⟩

theorem O_add_list {a b : Addr} {xs ys : List PyData} (ha : mu a = some (.list xs)) (hb : mu b = some (.list ys)) (hs : xs.length + ys.length ≤ sizeLine) (h : ∀ c, mu c = none → K (.ref c) (upd mu c (.list (xs ++ ys)))) :
    Op2 C n mu (binaryOp .Add) (.ref a) (.ref b) K := by
  intro A s v1 v2 _ r h1 h2
  cases h1; cases h2
  obtain ⟨vs, ⟨k, e1⟩, r1⟩ := (r.ok _ _ ha).1
  obtain ⟨ws, ⟨k2, e2⟩, r2⟩ := (r.ok _ _ hb).1
  have g := Grow.push s { cls := .type "list", data := .seq (vs ++ ws) } s.toks
  refine P.add_list e1 e2 (post_new (o := .list (xs ++ ys)) r (noLive _) g.keep ⟨vs ++ ws, ⟨_, Heap.get?_push_size _ rfl⟩, by rw [Array.toList_append]; exact (r1.append r2).mono g.tup⟩ rfl rfl h) ?_
  rw [← Array.length_toList, ← Array.length_toList, r1.length, r2.length]; exact hs

/-! comparisons -/
theorem O_eq {d e : PyData} (hd : SeqAt.shaped d = true) (he : SeqAt.shaped e = true) (h : K (.dat (.bool (PyData.eqv d e))) mu) : Op2 C n mu (compareOp .Eq) (.dat d) (.dat e) K := by
  intro A s v1 v2 a r h1 h2
  exact eq_dataH (Rd.reads h1) (Rd.reads h2) hd he (by have := a.units; omega) ((Grow.refl s s.toks).post r (p := .dat (.bool _)) (Rd.bool _) h)
theorem O_ne {d e : PyData} (hd : SeqAt.shaped d = true) (he : SeqAt.shaped e = true) (h : K (.dat (.bool (!PyData.eqv d e))) mu) : Op2 C n mu (compareOp .NotEq) (.dat d) (.dat e) K := by
  intro A s v1 v2 a r h1 h2
  exact ne_dataH (Rd.reads h1) (Rd.reads h2) hd he (by have := a.units; omega) ((Grow.refl s s.toks).post r (p := .dat (.bool _)) (Rd.bool _) h)
theorem MOok.readsList {h : Heap} {a : Addr} {l : List PyData} (x : MOok C.prog C.w h a (.list l)) : Reads h (.ref a) (.list l) [a] := by
  obtain ⟨vs, ⟨k, e⟩, r⟩ := x
  exact .list e rfl rfl r.reads
theorem O_eq_list {a b : Addr} {xs ys : List PyData} (ha : mu a = some (.list xs)) (hb : mu b = some (.list ys)) (hd : SeqAt.shaped (.list xs) = true) (he : SeqAt.shaped (.list ys) = true) (h : K (.dat (.bool (PyData.eqv (.list xs) (.list ys)))) mu) :
    Op2 C n mu (compareOp .Eq) (.ref a) (.ref b) K := by
  intro A s v1 v2 q r h1 h2
  cases h1; cases h2
  exact eq_dataH (MOok.readsList (r.ok _ _ ha).1) (MOok.readsList (r.ok _ _ hb).1) hd he (by have := q.units; omega) ((Grow.refl s s.toks).post r (p := .dat (.bool _)) (Rd.bool _) h)
theorem min_le {a b k : Nat} (h : b ≤ k) : min a b ≤ k := Nat.le_trans (Nat.min_le_right _ _) h
theorem O_in_tup {d : PyData} {xs : List PyData} (hx : PyData.canLayAll0 xs = true) (hd : SeqAt.shaped d = true) (h : K (.dat (.bool (xs.any fun y => PyData.eqv y d))) mu) : Op2 C n mu (compareOp .In) (.dat d) (.dat (.tuple xs)) K := by
  intro A s v1 v2 q r h1 h2
  have hdd := Bool.and_eq_true_iff.mp hd
  exact SeqAt.in_tuple_reads (Rd.reads h2) (Rd.reads h1) hx hdd.1 (by have := q.units; have := min_le (a := PyData.depthAll xs) (of_decide_eq_true hdd.2); omega) ((Grow.refl s s.toks).post r (p := .dat (.bool _)) (Rd.bool _) h)
theorem O_notin_tup {d : PyData} {xs : List PyData} (hx : PyData.canLayAll0 xs = true) (hd : SeqAt.shaped d = true) (h : K (.dat (.bool (!xs.any fun y => PyData.eqv y d))) mu) : Op2 C n mu (compareOp .NotIn) (.dat d) (.dat (.tuple xs)) K := by
  intro A s v1 v2 q r h1 h2
  have hdd := Bool.and_eq_true_iff.mp hd
  exact SeqAt.notIn_tuple_reads (Rd.reads h2) (Rd.reads h1) hx hdd.1 (by have := q.units; have := min_le (a := PyData.depthAll xs) (of_decide_eq_true hdd.2); omega) ((Grow.refl s s.toks).post r (p := .dat (.bool _)) (Rd.bool _) h)
theorem O_in_list {d : PyData} {a : Addr} {xs : List PyData} (ha : mu a = some (.list xs)) (hx : PyData.canLayAll0 xs = true) (hd : SeqAt.shaped d = true) (h : K (.dat (.bool (xs.any fun y => PyData.eqv y d))) mu) : Op2 C n mu (compareOp .In) (.dat d) (.ref a) K := by
  intro A s v1 v2 q r h1 h2
  cases h2
  have hdd := Bool.and_eq_true_iff.mp hd
  exact SeqAt.in_list_reads (MOok.readsList (r.ok _ _ ha).1) (Rd.reads h1) hx hdd.1 (by have := q.units; have := min_le (a := PyData.depthAll xs) (of_decide_eq_true hdd.2); omega) ((Grow.refl s s.toks).post r (p := .dat (.bool _)) (Rd.bool _) h)
theorem O_notin_list {d : PyData} {a : Addr} {xs : List PyData} (ha : mu a = some (.list xs)) (hx : PyData.canLayAll0 xs = true) (hd : SeqAt.shaped d = true) (h : K (.dat (.bool (!xs.any fun y => PyData.eqv y d))) mu) : Op2 C n mu (compareOp .NotIn) (.dat d) (.ref a) K := by
  intro A s v1 v2 q r h1 h2
  cases h2
  have hdd := Bool.and_eq_true_iff.mp hd
  exact SeqAt.notIn_list_reads (MOok.readsList (r.ok _ _ ha).1) (Rd.reads h1) hx hdd.1 (by have := q.units; have := min_le (a := PyData.depthAll xs) (of_decide_eq_true hdd.2); omega) ((Grow.refl s s.toks).post r (p := .dat (.bool _)) (Rd.bool _) h)
theorem O_in_str {x y : Str} (h : K (.dat (.bool (Txt.contains y x))) mu) : Op2 C n mu (compareOp .In) (.dat (.str x)) (.dat (.str y)) K := by
  intro A s v1 v2 q r h1 h2
  cases h1; cases h2
  exact P.in_str ((Grow.refl s s.toks).post r (p := .dat (.bool _)) (Rd.bool _) h)
theorem O_lt {a b : Int} (h : K (.dat (.bool (decide (a < b)))) mu) : Op2 C n mu (compareOp .Lt) (.dat (.int a)) (.dat (.int b)) K := by
  intro A s v1 v2 _ r h1 h2
  cases h1; cases h2
  exact wpAny_lt_int ((Grow.refl s s.toks).post r (p := .dat (.bool _)) (Rd.bool _) h)
theorem O_gt {a b : Int} (h : K (.dat (.bool (decide (b < a)))) mu) : Op2 C n mu (compareOp .Gt) (.dat (.int a)) (.dat (.int b)) K := by
  intro A s v1 v2 _ r h1 h2
  cases h1; cases h2
  exact gt_int ((Grow.refl s s.toks).post r (p := .dat (.bool _)) (Rd.bool _) h)
theorem O_ge {a b : Int} (h : K (.dat (.bool (decide (b ≤ a)))) mu) : Op2 C n mu (compareOp .GtE) (.dat (.int a)) (.dat (.int b)) K := by
  intro A s v1 v2 _ r h1 h2
  cases h1; cases h2
  exact ge_int ((Grow.refl s s.toks).post r (p := .dat (.bool _)) (Rd.bool _) h)

def PyData.isNone : PyData → Bool
  | .none => true
  | _ => false
theorem O_is_none {d : PyData} (h : K (.dat (.bool (PyData.isNone d))) mu) : Op2 C n mu (compareOp .Is) (.dat d) (.dat .none) K := by
  intro A s v1 v2 _ r h1 h2
  cases h2
  cases h1 <;> exact wpAny_is_plain rfl ((Grow.refl s s.toks).post r (p := .dat (.bool _)) (Rd.bool _) h)
theorem O_isnot_none {d : PyData} (h : K (.dat (.bool (!PyData.isNone d))) mu) : Op2 C n mu (compareOp .IsNot) (.dat d) (.dat .none) K := by
  intro A s v1 v2 _ r h1 h2
  cases h2
  cases h1 <;> exact wpAny_isNot_plain rfl ((Grow.refl s s.toks).post r (p := .dat (.bool _)) (Rd.bool _) h)

/-! displays -/
def EvL (C : Cx) (n : Nat) (env : Env) (pos : Pos) (es : List Expr) (S : St) (Q : List PV → Mu → Prop) : Prop :=
  ∀ A s, Room n A → R C env s.heap S → wpAny C.M A (spliced (backTo pos (starEach es env))) (fun vs s' => ∃ ps mu', PvAll s'.heap vs ps ∧ C.RB s'.heap mu' ∧ Step S.mu mu' s s' ∧ Q ps mu') No s
abbrev ConsQ (p : PV) (Q : List PV → Mu → Prop) : List PV → Mu → Prop := fun ps mu2 => Q (p :: ps) mu2
abbrev ConsK (C : Cx) (n : Nat) (env : Env) (pos : Pos) (es : List Expr) (loc : List (Str × PV)) (Q : List PV → Mu → Prop) : PV → Mu → Prop := fun p mu1 => EvL C n env pos es ⟨loc, mu1⟩ (ConsQ p Q)
abbrev TupK (Q : PV → Mu → Prop) : List PV → Mu → Prop := fun ps mu => ps.all PV.isD = true ∧ ps.length ≤ sizeLine ∧ Q (.dat (.tuple (ps.map PV.toD))) mu
abbrev ListK (Q : PV → Mu → Prop) : List PV → Mu → Prop := fun ps mu => ps.all PV.isD = true ∧ ps.length ≤ sizeLine ∧ ∀ a, mu a = none → Q (.ref a) (upd mu a (.list (ps.map PV.toD)))
theorem L_nil {loc : List (Str × PV)} {mu₀ : Mu} {pos : Pos} {Q : List PV → Mu → Prop} (h : Q [] mu₀) : EvL C n env pos [] ⟨loc, mu₀⟩ Q :=
  fun _ s _ r => Calls.spliced_nil ⟨[], mu₀, .nil, r.rb, Step.refl _ s, h⟩
theorem L_cons {loc : List (Str × PV)} {mu₀ : Mu} {pos : Pos} {e : Expr} {es : List Expr} {Q : List PV → Mu → Prop} (h : EvE C n env e ⟨loc, mu₀⟩ (ConsK C n env pos es loc Q))
    (he : starEach (e :: es) env = (false, eval e env) :: starEach es env := by rfl) : EvL C n env pos (e :: es) ⟨loc, mu₀⟩ Q := by
  intro A s a r
  rw [he]
  refine Calls.spliced_cons (wpAny_mono (h A s a r) ?_ fun _ _ x => x)
  rintro v s1 ⟨p, mu1, hv, rb, st, h1⟩
  refine wpAny_mono (h1 A s1 a (r.step rb st)) ?_ fun _ _ x => x
  rintro vs s2 ⟨ps, mu2, hvs, rb2, st2, h2⟩
  exact ⟨p :: ps, mu2, .cons (hv.mono (st2.tup rb)) hvs, rb2, st.trans st2, h2⟩

theorem E_tuple {loc : List (Str × PV)} {mu₀ : Mu} {elts : List Expr} {k : Nat} {pos : Pos} (h : EvL C n env pos elts ⟨loc, mu₀⟩ (TupK Q)) : EvE C n env (.Tuple elts k pos) ⟨loc, mu₀⟩ Q := by
  intro A s a r
  refine Tuple_ (wpAny_mono (h A s a r) ?_ fun _ _ x => x)
  rintro vs s1 ⟨ps, mu1, hv, rb, st, h1, h2, h3⟩
  have g := Grow.push s1 { cls := .type "tuple", data := .seq vs.toArray } s1.toks
  refine wpAny_newTuple (Post.trans st (g.post rb (p := .dat (.tuple _)) (Rd.tuple (Heap.get?_push_size _ rfl) rfl rfl ?_) h3)) (by rw [hv.length]; exact h2)
  exact (hv.rd h1).mono g.tup
theorem E_list {loc : List (Str × PV)} {mu₀ : Mu} {elts : List Expr} {pos : Pos} (h : EvL C n env pos elts ⟨loc, mu₀⟩ (ListK Q)) : EvE C n env (.List elts pos) ⟨loc, mu₀⟩ Q := by
  intro A s a r
  refine List_ (wpAny_mono (h A s a r) ?_ fun _ _ x => x)
  rintro vs s1 ⟨ps, mu1, hv, rb, st, h1, h2, h3⟩
  have g := Grow.push s1 { cls := .type "list", data := .seq vs.toArray } s1.toks
  refine wpAny_newList (Post.trans st (post_new (o := .list _) rb (noLive _) g.keep ⟨vs.toArray, ⟨_, Heap.get?_push_size _ rfl⟩, ?_⟩ rfl rfl h3)) (by rw [hv.length]; exact h2)
  exact (hv.rd h1).mono g.tup
end
end
section
def Kp (s : Shared) (h' : Heap) : Prop := ∀ b o, s.heap.get? b = some o → h'.get? b = some o
theorem Kp.kept (s : Shared) : KeptH (Kp s) := fun _ ob k b o e => Heap.get?_push_of_some ob (k b o e)
theorem Kp.grow {s : Shared} {h' : Heap} {tk : Nat} (k : Kp s h') : Grow s { s with heap := h', toks := tk } := ⟨k, rfl, rfl⟩

def SubOk (C : Cx) (n : Nat) (mu : Mu) (value slice : Expr) (p1 p2 : PV) (K : PV → Mu → Prop) : Prop :=
  ∀ A s v1 v2, Room n A → C.RB s.heap mu → Pv s.heap v1 p1 → Pv s.heap v2 p2 → Do C A s mu (subscriptTail value slice v1 v2) K

theorem valueAt_dr {h : Heap} {k : Str} {p : PV} : ∀ {kvs : List (Str × Value)} {l : List (Str × PV)}, DR h kvs l → l.lookup k = some p → ∃ v, valueAt kvs k = some v ∧ Pv h v p
  | _, _, .nil, e => by simp at e
  | _, _, .cons (k := y) (v := v) (p := q) (kvs := kvs) (l := l) a b, e => by
    by_cases hy : k = y
    · subst hy
      rw [List.lookup_cons, beq_self_eq_true] at e
      cases e
      exact ⟨v, by simp [valueAt], a⟩
    · rw [List.lookup_cons, show (k == y) = false from beq_false_of_ne hy] at e
      obtain ⟨v', e', pv⟩ := valueAt_dr b e
      refine ⟨v', ?_, pv⟩
      rw [← e']
      unfold valueAt
      rw [List.find?_cons_of_neg]
      simpa using fun q => hy q.symm

def storedP (l : List (Str × PV)) (k : Str) (p : PV) : List (Str × PV) :=
  if l.any (fun kv => kv.1 = k) then l.map (fun kv => if kv.1 = k then (kv.1, p) else kv) else l ++ [(k, p)]
theorem DR.any {h : Heap} {k : Str} : ∀ {kvs : List (Str × Value)} {l : List (Str × PV)}, DR h kvs l → kvs.any (fun kv => kv.1 = k) = l.any (fun kv => kv.1 = k)
  | _, _, .nil => rfl
  | _, _, .cons a b => by simp only [List.any_cons, b.any]
theorem DR.map {h : Heap} {k : Str} {v : Value} {p : PV} (hv : Pv h v p) : ∀ {kvs : List (Str × Value)} {l : List (Str × PV)}, DR h kvs l →
    DR h (kvs.map (fun kv => if kv.1 = k then (kv.1, v) else kv)) (l.map (fun kv => if kv.1 = k then (kv.1, p) else kv))
  | _, _, .nil => .nil
  | _, _, .cons (k := y) a b => by
    simp only [List.map_cons]
    by_cases hy : y = k
    · simp only [hy, if_true]; exact .cons hv (b.map hv)
    · simp only [hy, if_false]; exact .cons a (b.map hv)
theorem DR.snoc {h : Heap} {k : Str} {v : Value} {p : PV} (hv : Pv h v p) : ∀ {kvs : List (Str × Value)} {l : List (Str × PV)}, DR h kvs l → DR h (kvs ++ [(k, v)]) (l ++ [(k, p)])
  | _, _, .nil => .cons hv .nil
  | _, _, .cons a b => .cons a (b.snoc hv)
theorem DR.stored {h : Heap} {k : Str} {v : Value} {p : PV} {kvs : List (Str × Value)} {l : List (Str × PV)} (hv : Pv h v p) (d : DR h kvs l) : DR h (PySem.stored kvs k v) (storedP l k p) := by
  unfold PySem.stored storedP
  rw [d.any]
  split
  · exact d.map hv
  · exact d.snoc hv

section
variable {C : Cx} {n : Nat} {env : Env} {S : St} {Q : PV → Mu → Prop} {K : PV → Mu → Prop} {mu : Mu}

abbrev SubQ (C : Cx) (n : Nat) (value slice : Expr) (p1 : PV) (Q : PV → Mu → Prop) : PV → Mu → Prop := fun p2 mu2 => SubOk C n mu2 value slice p1 p2 Q
abbrev SubK (C : Cx) (n : Nat) (env : Env) (value slice : Expr) (loc : List (Str × PV)) (Q : PV → Mu → Prop) : PV → Mu → Prop := fun p1 mu1 => EvE C n env slice ⟨loc, mu1⟩ (SubQ C n value slice p1 Q)
theorem E_sub {loc : List (Str × PV)} {mu₀ : Mu} {value slice : Expr} {pos : Pos} (h : EvE C n env value ⟨loc, mu₀⟩ (SubK C n env value slice loc Q)) : EvE C n env (.Subscript value slice pos) ⟨loc, mu₀⟩ Q := by
  intro A s hA hR
  refine Subscript_ (wpAny_mono (h A s hA hR) ?_ fun _ _ x => x)
  rintro v1 s1 ⟨p1, mu1, hv1, rb1, st1, h1⟩
  refine wpAny_mono (h1 A s1 hA (hR.step rb1 st1)) ?_ fun _ _ x => x
  rintro v2 s2 ⟨p2, mu2, hv2, rb2, st2, h2⟩
  exact (h2 A s2 v1 v2 hA rb2 (hv1.mono (st2.tup rb1)) hv2).from (st1.trans st2)

theorem B_tup {value slice : Expr} {ds : List PyData} {i : Int} {j : Nat} {d : PyData} (hlo : -(2 ^ 63) ≤ i) (hhi : i < 2 ^ 63) (hj : seqIndex? i ds.length = some j) (hd : ds[j]? = some d) (h : K (.dat d) mu)
    (hs : ∀ o i, subscripted slice false o i = operate [o, i] (getItem o i) := by intro _ _; rfl) : SubOk C n mu value slice (.dat (.tuple ds)) (.dat (.int i)) K := by
  intro A s v1 v2 a r h1 h2
  cases h2
  cases h1 with
  | tuple ho hc hdt hr =>
  rename_i t o vs k
  obtain ⟨v, hv, rv⟩ := hr.get hd
  have e1 : vs.toList.length = ds.length := hr.length
  exact item_tupleT (l := vs.toList) ⟨o, ho, hc, k, by simpa using hdt⟩ hlo hhi (by rw [e1]; exact hj) hv ((Grow.refl s s.toks).post r (p := .dat d) rv h) (hs _ _)
theorem B_list {value slice : Expr} {a : Addr} {ds : List PyData} {i : Int} {d : PyData} (ha : mu a = some (.list ds)) (h0 : 0 ≤ i) (hhi : i < 2 ^ 63) (hd : ds[i.toNat]? = some d) (h : K (.dat d) mu)
    (hs : ∀ o i, subscripted slice false o i = operate [o, i] (getItem o i) := by intro _ _; rfl) : SubOk C n mu value slice (.ref a) (.dat (.int i)) K := by
  intro A s v1 v2 q r h1 h2
  cases h1; cases h2
  obtain ⟨vs, ⟨k, e⟩, rr⟩ := (r.ok _ _ ha).1
  obtain ⟨v, hv, rv⟩ := rr.get hd
  have hL : s.heap.IsList a vs := ⟨_, e, rfl, k, rfl⟩
  exact tail_any hL.typeIs slot_list_getitem.lookup (wpAny_getItem_list hL h0 hhi (by simpa using hv) ((Grow.refl s s.toks).post r (p := .dat d) rv h)) (hs _ _)
theorem B_dict {value slice : Expr} {a : Addr} {l : List (Str × PV)} {x : Str} {p : PV} (ha : mu a = some (.dict l)) (hl : l.lookup x = some p) (h : K p mu)
    (hs : ∀ o i, subscripted slice false o i = operate [o, i] (getItem o i) := by intro _ _; rfl) : SubOk C n mu value slice (.ref a) (.dat (.str x)) K := by
  intro A s v1 v2 q r h1 h2
  cases h1; cases h2
  rename_i t
  obtain ⟨kvs, e, dr⟩ := (r.ok _ _ ha).1
  obtain ⟨v, hv, pv⟩ := valueAt_dr dr hl
  have hm := e.mapOf
  exact tail_any hm.typeIs slot_dict_getitem.lookup (wpAny_getItem_of (strKind_is C.prog C.w x t) hm hv ((Grow.refl s (s.toks + 1)).post r pv h)) (hs _ _)
theorem B_str {value slice : Expr} {x : Str} {i : Int} (h0 : 0 ≤ i) (hi : i < x.length) (hx : x.length ≤ sizeLine) (h : K (.dat (.str (Txt.item x i))) mu)
    (hs : ∀ o i, subscripted slice false o i = operate [o, i] (getItem o i) := by intro _ _; rfl) (ht : ∀ t r, letTemporaryGo value (.str x t) r = pure () := by intro _ _; rfl) : SubOk C n mu value slice (.dat (.str x)) (.dat (.int i)) K := by
  intro A s v1 v2 q r h1 h2
  cases h1; cases h2
  rw [sizeLine_eq] at hx
  refine item_str (fitsSsize_of (N := 9223372036854775808) (by omega) (by omega) (by omega)) (by omega) hi (fun _ => (Grow.refl s (s.toks + 1)).post r (p := .dat (.str _)) (Rd.str _ _) h) (hs _ _) (ht _)

/-! slices -/
def EvP (C : Cx) (n : Nat) (env : Env) (o : Option Expr) (S : St) (Q : Option Int → Mu → Prop) : Prop :=
  ∀ A s, Room n A → R C env s.heap S → wpAny C.M A (evalPart o env) (fun v s' => ∃ i mu', IsPart v i ∧ C.RB s'.heap mu' ∧ Step S.mu mu' s s' ∧ Q i mu') No s
theorem P_none {loc : List (Str × PV)} {mu₀ : Mu} {Q : Option Int → Mu → Prop} (h : Q none mu₀) : EvP C n env none ⟨loc, mu₀⟩ Q :=
  fun _ s _ r => wpAny_evalPart_none ⟨none, mu₀, .none, r.rb, Step.refl _ s, h⟩
theorem P_some {loc : List (Str × PV)} {mu₀ : Mu} {e : Expr} {Q : Option Int → Mu → Prop} (h : EvE C n env e ⟨loc, mu₀⟩ fun p mu => ∃ i, p = .dat (.int i) ∧ Q (some i) mu) : EvP C n env (some e) ⟨loc, mu₀⟩ Q := by
  intro A s a r
  refine wpAny_evalPart_some (wpAny_mono (h A s a r) ?_ fun _ _ x => x)
  rintro v s1 ⟨p, mu1, hv, rb, st, i, rfl, hq⟩
  cases hv
  exact ⟨some i, mu1, .int _ _, rb, st, hq⟩

def SlOk (C : Cx) (n : Nat) (mu : Mu) (value slice : Expr) (p1 : PV) (lo hi : Option Int) (K : PV → Mu → Prop) : Prop :=
  ∀ A s v1 vl vu, Room n A → C.RB s.heap mu → Pv s.heap v1 p1 → IsPart vl lo → IsPart vu hi →
    wpAny C.M A (subscriptTail value slice v1 (.ref s.heap.objs.size)) (Post C mu s K) No { s with heap := s.heap.push { cls := .type "slice", data := .fields #[vl, vu, .none] } }
theorem E_slice {loc : List (Str × PV)} {mu₀ : Mu} {value : Expr} {lo hi : Option Expr} {p pos : Pos} (h : EvE C n env value ⟨loc, mu₀⟩ fun p1 mu1 => EvP C n env lo ⟨loc, mu1⟩ fun l mu2 => EvP C n env hi ⟨loc, mu2⟩ fun u mu3 => SlOk C n mu3 value (.Slice lo hi none p) p1 l u Q) :
    EvE C n env (.Subscript value (.Slice lo hi none p) pos) ⟨loc, mu₀⟩ Q := by
  intro A s hA hR
  refine Subscript_ (wpAny_mono (h A s hA hR) ?_ fun _ _ x => x)
  rintro v1 s1 ⟨p1, mu1, hv1, rb1, st1, h1⟩
  refine wpAny_Slice (wpAny_mono (h1 A s1 hA (hR.step rb1 st1)) ?_ fun _ _ x => x)
  rintro vl s2 ⟨l, mu2, hl, rb2, st2, h2⟩
  refine wpAny_mono (h2 A s2 hA ((hR.step rb1 st1).step rb2 st2)) ?_ fun _ _ x => x
  rintro vu s3 ⟨u, mu3, hu, rb3, st3, h3⟩
  refine wpAny_evalPart_none ?_
  refine wpAny_mono (h3 A s3 v1 vl vu hA rb3 ((hv1.mono (st2.tup rb1)).mono (st3.tup rb2)) hl hu) (fun v s' x => x.trans ((st1.trans st2).trans st3)) fun _ _ x => x

/-! a tuple's slice -/
theorem adj_parts (lo hi : Option Int) (a b k : Nat) (h1 : (lo = none ∧ a = 0) ∨ (∃ i : Nat, lo = some (i : Int) ∧ a = min i k)) (h2 : (hi = none ∧ b = k) ∨ (∃ i : Nat, hi = some (i : Int) ∧ b = min i k)) :
    Builtin.Slice.sliceAdjust lo hi 1 (k : Int) = ((a : Int), (b : Int)) := by
  unfold Builtin.Slice.sliceAdjust
  have n1 : ¬ ((1 : Int) < 0) := by omega
  rcases h1 with ⟨rfl, rfl⟩ | ⟨i, rfl, rfl⟩ <;> rcases h2 with ⟨rfl, rfl⟩ | ⟨j, rfl, rfl⟩ <;> simp only [n1, if_false]
  · rfl
  · have : ¬ ((j : Int) < 0) := by omega
    simp only [this, if_false]; congr 1; omega
  · have : ¬ ((i : Int) < 0) := by omega
    simp only [this, if_false]; congr 1; omega
  · have a1 : ¬ ((i : Int) < 0) := by omega
    have a2 : ¬ ((j : Int) < 0) := by omega
    simp only [a1, a2, if_false]
    have : ((min i k : Nat) : Int) = min (i : Int) k := by omega
    have : ((min j k : Nat) : Int) = min (j : Int) k := by omega
    congr 1 <;> omega
theorem places_ab (a b : Nat) : Builtin.Slice.slicePlaces (a : Int) (b : Int) 1 = b - a := by
  unfold Builtin.Slice.slicePlaces
  have h1 : (1 : Int) > 0 := by omega
  simp only [h1, if_true, Int.ediv_one]
  split <;> omega
theorem part_of {s : Shared} {A : Around} {E : Value → Shared → Prop} {v : Value} {o : Option Int} {P : Option Int → Shared → Prop} (hp : IsPart v o) (h : P o s) : wpAny C.M A (Builtin.Slice.slicePartIndex v) P E s := by
  cases hp with
  | none => exact slicePart_none h
  | int i t => exact slicePart_int h
theorem pick_ab {α : Type} (xs : Array α) (a c : Nat) (h : a + c ≤ xs.size) : ((List.range c).filterMap fun (k : Nat) => xs[((a : Int) + (k : Int) * 1).toNat]?) = (xs.toList.drop a).take c := by
  induction c with
  | zero => simp
  | succ c ih =>
    rw [List.range_succ, List.filterMap_append, ih (by omega), List.take_add_one]
    congr 1
    have e : ((a : Int) + (c : Int) * 1).toNat = a + c := by omega
    simp only [List.filterMap_cons, List.filterMap_nil, e, List.getElem?_drop, Array.getElem?_toList]
    rw [Array.getElem?_eq_getElem (by omega)]
    rfl

theorem getItem_tup_sl {A : Around} {E : Value → Shared → Prop} {s : Shared} {t sl : Addr} {items : Array Value} {lo hi : Option Int} {vl vu : Value} {a b : Nat} {P : Value → Shared → Prop} (ht : IsTup s.heap t items)
    (hs : s.heap.IsSliceOf sl vl vu .none) (pl : IsPart vl lo) (pu : IsPart vu hi) (hadj : Builtin.Slice.sliceAdjust lo hi 1 (items.size : Int) = ((a : Int), (b : Int))) (hb : b ≤ items.size)
    (h1 : (items.toList.drop a).take (b - a) = items.toList → P (.ref t) s)
    (h2 : P (.ref s.heap.objs.size) { s with heap := s.heap.push { cls := .type "tuple", data := .seq ((items.toList.drop a).take (b - a)).toArray } })
    (hsz : items.size ≤ sizeLine) : wpAny C.M A (getItem (.ref t) (.ref sl)) P E s := by
  have hdrop : sizeOk (.seq ((items.toList.drop a).take (b - a)).toArray) := by
    show ((items.toList.drop a).take (b - a)).toArray.size ≤ sizeLine
    rw [List.size_toArray, List.length_take, List.length_drop, Array.length_toList]
    omega
  obtain ⟨os, hos, hcs, hds⟩ := id hs
  have hTs : s.TypeIs (.ref sl) "slice" := ⟨os, hos, hcs⟩
  have happ : ∀ {P' : Int × Int × Nat → Shared → Prop} {E' : Value → Shared → Prop} {A' : Around}, P' ((a : Int), 1, b - a) s → wpAny C.M A' (Builtin.Slice.sliceApplied (.ref sl) (pure (items.size : Int))) P' E' s := by
    intro P' E' A' h'
    unfold Builtin.Slice.sliceApplied Builtin.Slice.sliceFields
    refine wpAny_bind (wpAny_bind (wpAny_field hos hds (x := vl) rfl (wpAny_bind (wpAny_field hos hds (x := vu) rfl (wpAny_bind (wpAny_field hos hds (x := .none) rfl (wpAny_pure ?_)))))))
    refine wpAny_bind (slicePart_none ?_)
    show wpAny _ _ (if ((1 : Int) == 0) = true then _ else _) _ _ s
    rw [if_neg (by decide)]
    refine wpAny_bind (part_of pl (wpAny_bind (part_of pu (wpAny_bind (wpAny_pure ?_)))))
    show wpAny _ _ (match Builtin.Slice.sliceAdjust lo hi 1 (items.size : Int) with | (lo, hi) => pure (lo, (1 : Int), Builtin.Slice.slicePlaces lo hi 1)) _ _ s
    rw [hadj]
    show wpAny _ _ (pure ((a : Int), (1 : Int), Builtin.Slice.slicePlaces (a : Int) (b : Int) 1)) _ _ s
    rw [places_ab]
    exact wpAny_pure h'
  unfold getItem
  try with_reducible refine wpAny_holding ?_
  first | refine wpAny_bind (wpAny_pure ?_) | skip
  refine wpAny_bind (wpAny_sequenceKey ht.typeIs (by decide) ?_)
  refine wpAny_bind (wpAny_callSpecial?_slot (name := Str.ofString "__getitem__") ht.typeIs slot_tuple_getitem
    (wpAny_call_entry slot_tuple_getitem ht.typeIs entry_tuple_getitem ?_ (args_tuple_getitem _ _)))
  show wpAny _ _ (Builtin.Tuple.tupleItemsOf (.ref t) >>= _) _ _ s
  refine wpAny_bind (tupleItemsOf_ ht ?_)
  refine wpAny_bind (wpAny_typeOf hTs ?_)
  rw [if_pos (by decide)]
  refine wpAny_bind (happ ?_)
  by_cases hw : ((a : Int) == 0 && (1 : Int) == 1 && (b - a) == items.size) = true
  · show wpAny _ _ (if ((a : Int) == 0 && (1 : Int) == 1 && (b - a) == items.size) = true then _ else _) _ _ s
    rw [if_pos hw]
    have e1 : a = 0 ∧ b - a = items.size := by
      simp only [Bool.and_eq_true, beq_iff_eq] at hw
      omega
    have e2 : (items.toList.drop a).take (b - a) = items.toList := by
      rw [e1.2, e1.1, List.drop_zero, ← Array.length_toList, List.take_length]
    have key : wpAny C.M A.in1 (Builtin.Tuple.tupleIsExact (.ref t)) (fun r s' => r = true ∧ s' = s) E s :=
      wpAny_bind (wpAny_typeOf ht.typeIs (wpAny_pure ⟨by decide, rfl⟩))
    refine wpAny_bind (wpAny_mono key ?_ fun _ _ x => x)
    rintro r s' ⟨rfl, rfl⟩
    rw [if_pos rfl]
    exact wpAny_bind (wpAny_rule (wpAny_pure ⟨_, rfl, wpAny_pure (h1 e2)⟩))
  · show wpAny _ _ (if ((a : Int) == 0 && (1 : Int) == 1 && (b - a) == items.size) = true then _ else _) _ _ s
    rw [if_neg hw]
    have hpk : ((List.range (b - a)).filterMap fun (k : Nat) => items[((a : Int) + (k : Int) * 1).toNat]?) = (items.toList.drop a).take (b - a) := by
      by_cases hab : a ≤ b
      · exact pick_ab items a (b - a) (by omega)
      · have : b - a = 0 := by omega
        rw [this]; simp
    rw [hpk]
    first
      | exact wpAny_bind (m := Builtin.Tuple.tupleExact _) (wpAny_newObj_type (wpAny_pure ⟨_, rfl, wpAny_pure h2⟩) hdrop)
      | exact wpAny_bind (m := Builtin.Tuple.tupleExact _) (wpAny_newObj_type (wpAny_bind (wpAny_pure (wpAny_pure ⟨_, rfl, wpAny_pure h2⟩))) hdrop)
      | exact wpAny_bind (wpAny_bind (m := Builtin.Tuple.tupleExact _) (wpAny_newObj_type (wpAny_pure (wpAny_pure ⟨_, rfl, wpAny_pure h2⟩)) hdrop))
      | exact wpAny_bind (wpAny_bind (m := Builtin.Tuple.tupleExact _) (wpAny_newObj_type (wpAny_pure ⟨_, rfl, wpAny_pure h2⟩) hdrop))

theorem Z_tup {value slice : Expr} {ds : List PyData} {lo hi : Option Int} (a b : Nat) (hsz : ds.length ≤ sizeLine)
    (h1 : (lo = none ∧ a = 0) ∨ (∃ i : Nat, lo = some (i : Int) ∧ a = min i ds.length)) (h2 : (hi = none ∧ b = ds.length) ∨ (∃ i : Nat, hi = some (i : Int) ∧ b = min i ds.length))
    (h : K (.dat (.tuple ((ds.drop a).take (b - a)))) mu)
    (hs : ∀ o i, subscripted slice false o i = operate [i, o] (getItem o i) := by intro _ _; rfl) : SlOk C n mu value slice (.dat (.tuple ds)) lo hi K := by
  intro A s v1 vl vu q r hv pl pu
  cases hv with
  | tuple ho hc hdt hr =>
  rename_i t o vs k
  have e1 : vs.toList.length = ds.length := hr.length
  have e2 : vs.size = ds.length := by rw [← Array.length_toList]; exact e1
  have g := Grow.push s { cls := .type "slice", data := .fields #[vl, vu, .none] } s.toks
  have hT : IsTup (s.heap.push { cls := .type "slice", data := .fields #[vl, vu, .none] }) t vs := ⟨o, Heap.get?_push_of_some _ ho, hc, k, hdt⟩
  have hb : b ≤ vs.size := by rcases h2 with ⟨_, rfl⟩ | ⟨i, _, rfl⟩ <;> omega
  refine tail_any (s := { s with heap := s.heap.push { cls := .type "slice", data := .fields #[vl, vu, .none] } }) (T := "tuple") ⟨o, Heap.get?_push_of_some _ ho, hc⟩ F.slot_tuple_getitem.lookup
    (getItem_tup_sl hT (Heap.IsSliceOf.new ..) pl pu (by rw [e2]; exact adj_parts lo hi a b ds.length h1 h2) hb (fun e => ?_) ?_ (by rw [e2]; exact hsz)) (hs _ _)
  · have : (ds.drop a).take (b - a) = ds := by
      have l1 := congrArg List.length e
      rw [List.length_take, List.length_drop, e1] at l1
      have : b - a = ds.length ∧ (a = 0 ∨ ds.length = 0) := by omega
      rcases this with ⟨q1, q2 | q2⟩
      · rw [q1, q2, List.drop_zero, List.take_length]
      · rw [List.length_eq_zero_iff] at q2; subst q2; simp
    rw [this] at h
    exact (g.post r (p := .dat (.tuple _)) (Rd.tuple (g.keep _ _ ho) hc hdt (hr.mono g.tup)) h)
  · have g2 := Grow.push { s with heap := s.heap.push { cls := .type "slice", data := .fields #[vl, vu, .none] } } { cls := .type "tuple", data := .seq ((vs.toList.drop a).take (b - a)).toArray } s.toks
    have g3 : Grow s { s with heap := (s.heap.push { cls := .type "slice", data := .fields #[vl, vu, .none] }).push { cls := .type "tuple", data := .seq ((vs.toList.drop a).take (b - a)).toArray } } :=
      ⟨fun b o e => g2.keep _ _ (g.keep _ _ e), rfl, rfl⟩
    exact g3.post r (p := .dat (.tuple _)) (Rd.tuple (Heap.get?_push_size _ rfl) rfl rfl (((hr.drop a).take (b - a)).mono g3.tup)) h
theorem Z_str {value slice : Expr} {x : Str} {i j : Int} (hx : x.length ≤ sizeLine) (h : K (.dat (.str (Txt.slice x (some i) (some j)))) mu)
    (hs : ∀ o i, subscripted slice false o i = operate [i, o] (getItem o i) := by intro _ _; rfl) (ht : ∀ t r, letTemporaryGo value (.str x t) r = pure () := by intro _ _; rfl) : SlOk C n mu value slice (.dat (.str x)) (some i) (some j) K := by
  intro A s v1 vl vu q r hv pl pu
  cases hv; cases pl; cases pu
  exact tail_of_ItemOn (SBH.sliceItem_ss (Kp.kept s) (fun _ _ e => e) (fun h' t' k p => (Kp.grow p).post r (p := .dat (.str _)) (Rd.str _ _) h) hx) (hs _ _) (ht _)
end
end
section
def CallOk (C : Cx) (n : Nat) (mu : Mu) (f : Value) (ps : List PV) (K : PV → Mu → Prop) : Prop :=
  ∀ A s vs, Room n A → C.RB s.heap mu → PvAll s.heap vs ps → Do C A s mu (call f vs) K

abbrev CallK (C : Cx) (n : Nat) (v : Value) (Q : PV → Mu → Prop) : List PV → Mu → Prop := fun ps mu => CallOk C n mu v ps Q
section
variable {C : Cx} {n : Nat} {env : Env} {S : St} {Q : PV → Mu → Prop} {K : PV → Mu → Prop} {mu : Mu}

theorem callWith_x {A : Around} {s : Shared} {f : Value} {pos : Pos} {first : List Value} {e : Expr} {es : List Expr} {P : Value → Shared → Prop} {Hp : Heap → Prop}
    (hk : ∀ h, Hp h → ∃ k, (k = Keeper.frame ∨ k = Keeper.machine ∨ k = Keeper.boundFrame) ∧ Looks C.M h (keeperOf f) k)
    (h : wpAny C.M A (spliced (backTo pos (starEach (e :: es) env))) (fun vs s₁ => Hp s₁.heap ∧ wpAny C.M A (call f (first ++ vs)) P No s₁) No s)
    (he : backTo pos (starEach (e :: es) env) = (false, eval e env) :: backTo pos (starEach es env)) (hany : (backTo pos (starEach es env)).any (·.1) = false) :
    wpAny C.M A (callWith pos f first (backTo pos (starEach (e :: es) env)) (backToKw pos (keywordEach [] env))) P No s := by
  rw [he] at h ⊢
  exact callWith_of (by show ((false || (backTo pos (starEach es env)).any (·.1)) || false) = false; rw [hany]; rfl) hk (Calls.evalArgs_plain h)

theorem keep_blt {M : Model} {v : Value} (hv : keeperOf v = pure Keeper.machine) (h : Heap) : ∃ k, (k = Keeper.frame ∨ k = Keeper.machine ∨ k = Keeper.boundFrame) ∧ Looks M h (keeperOf v) k :=
  ⟨_, .inr (.inl rfl), Looks.of_pure hv⟩

/-- a call of a built-in function or type by its name -/
theorem E_blt {loc : List (Str × PV)} {mu₀ : Mu} {x : Str} {np pos : Pos} {v : Value} {e : Expr} {es : List Expr} (hm : C.mg x = none) (hb : bootBuiltins x = some v) (hv : keeperOf v = pure Keeper.machine)
    (h : EvL C n env pos (e :: es) ⟨loc, mu₀⟩ (CallK C n v Q))
    (hn : x ≠ ("__name__" : Str) := by decide) (hg : env.globals = mainGlobals := by rfl) (hbl : env.builtins = builtinsNs := by rfl) (hx : env.kindOf x = some .globalImplicit := by rfl) (hk : env.scope.kind = .function := by rfl) (hd : (x == ("__debug__" : Str)) = false := by rfl)
    (he : backTo pos (starEach (e :: es) env) = (false, eval e env) :: backTo pos (starEach es env) := by rfl) (hany : (backTo pos (starEach es env)).any (·.1) = false := by rfl) : EvE C n env (.Call (.Name x np) (e :: es) [] pos) ⟨loc, mu₀⟩ Q := by
  intro A s a r
  refine wpAny_Call_ofName (wp_blt r.rb hm hb hn ?_ hg hbl hx hk hd)
  refine callWith_x (Hp := fun _ => True) (fun h _ => keep_blt hv h) (wpAny_mono (h A s a r) ?_ fun _ _ x => x) he hany
  rintro vs s1 ⟨ps, mu1, hvs, rb, st, hc⟩
  exact ⟨trivial, (hc A s1 vs a rb hvs).from st⟩

structure FnAt (C : Cx) (f : Str) (a : Addr) : Prop where
  mg : C.mg f = some (.ref a)
  ob : ∃ o fd, C.h.get? a = some o ∧ o.data = .func fd
def FnOk (C : Cx) (n : Nat) (f : Str) (mu : Mu) (ps : List PV) (K : PV → Mu → Prop) : Prop := ∀ a, C.mg f = some (.ref a) → CallOk C n mu (.ref a) ps K

abbrev FnK (C : Cx) (n : Nat) (f : Str) (Q : PV → Mu → Prop) : List PV → Mu → Prop := fun ps mu => FnOk C n f mu ps Q
theorem keep_fn {M : Model} {h : Heap} {a : Addr} {o : Obj} {fd : FuncData} (ho : h.get? a = some o) (hd : o.data = .func fd) : ∃ k, (k = Keeper.frame ∨ k = Keeper.machine ∨ k = Keeper.boundFrame) ∧ Looks M h (keeperOf (.ref a)) k := by
  refine ⟨.frame, .inl rfl, (Looks.ld (part := none) ho).andThen ?_⟩
  obtain ⟨c, d, dt, sl⟩ := o
  cases hd
  exact .now

theorem E_call {loc : List (Str × PV)} {mu₀ : Mu} {f : Str} {np pos : Pos} {e : Expr} {es : List Expr} (hf : ∃ a, FnAt C f a) (h : EvL C n env pos (e :: es) ⟨loc, mu₀⟩ (FnK C n f Q))
    (hg : env.globals = mainGlobals := by rfl) (hx : env.kindOf f = some .globalImplicit := by rfl) (hk : env.scope.kind = .function := by rfl) (hd : (f == ("__debug__" : Str)) = false := by rfl)
    (he : backTo pos (starEach (e :: es) env) = (false, eval e env) :: backTo pos (starEach es env) := by rfl) (hany : (backTo pos (starEach es env)).any (·.1) = false := by rfl) : EvE C n env (.Call (.Name f np) (e :: es) [] pos) ⟨loc, mu₀⟩ Q := by
  intro A s a r
  obtain ⟨b, hm, o, fd, ho, hdt⟩ := hf
  refine wpAny_Call_ofName (wp_glob r.rb hm ?_ hg hx hk hd)
  refine callWith_x (Hp := fun h => h.get? b = some o) (fun h q => keep_fn q hdt) (wpAny_mono (h A s a r) ?_ fun _ _ x => x) he hany
  rintro vs s1 ⟨ps, mu1, hvs, rb, st, hc⟩
  exact ⟨rb.base _ _ ho, (hc b hm A s1 vs a rb hvs).from st⟩

/-! methods -/
def TyOk (C : Cx) (mu : Mu) (T : String) (p : PV) : Prop := ∀ (s : Shared) (v : Value), C.RB s.heap mu → Pv s.heap v p → s.TypeIs v T ∧ ∀ a, v = .ref a → ∃ ob : Obj, s.heap.get? a = some ob ∧ ob.dict = none
theorem Ty_str {x : Str} : TyOk C mu "str" (.dat (.str x)) := by
  intro s v _ hv
  cases hv
  exact ⟨typeIs_str _ _ _, fun a e => by cases e⟩
theorem Ty_list {a : Addr} {l : List PyData} (ha : mu a = some (.list l)) : TyOk C mu "list" (.ref a) := by
  intro s v r hv
  cases hv
  obtain ⟨vs, ⟨k, e⟩, _⟩ := (r.ok _ _ ha).1
  exact ⟨⟨_, e, rfl⟩, fun b q => by cases q; exact ⟨_, e, rfl⟩⟩
theorem Ty_dict {a : Addr} {l : List (Str × PV)} (ha : mu a = some (.dict l)) : TyOk C mu "dict" (.ref a) := by
  intro s v r hv
  cases hv
  obtain ⟨kvs, ⟨o, es, ep, e, q, _⟩, _⟩ := (r.ok _ _ ha).1
  exact ⟨⟨_, e, q.1⟩, fun b q' => by cases q'; exact ⟨_, e, q.2.1⟩⟩

abbrev MethQ (C : Cx) (n : Nat) (id : String) (p : PV) (Q : PV → Mu → Prop) : List PV → Mu → Prop := fun ps mu2 => CallOk C n mu2 (.builtin id) (p :: ps) Q
abbrev MethK (C : Cx) (n : Nat) (env : Env) (T id : String) (pos : Pos) (es : List Expr) (loc : List (Str × PV)) (Q : PV → Mu → Prop) : PV → Mu → Prop := fun p mu1 => TyOk C mu1 T p ∧ EvL C n env pos es ⟨loc, mu1⟩ (MethQ C n id p Q)
theorem E_meth {loc : List (Str × PV)} {mu₀ : Mu} {o : Expr} {name : Str} {apos pos : Pos} {e : Expr} {es : List Expr} {T id : String} (hpl : PlainAttrs T) (hsl : Slot T name id) (hty : typeOf (.builtin id) = pure (.type "method_descriptor"))
    (h : EvE C n env o ⟨loc, mu₀⟩ (MethK C n env T id pos (e :: es) loc Q))
    (hab : attributeBase o name env (eval o env) = eval o env := by rfl)
    (hnum : (((backTo pos (starEach (e :: es) env)).all (!·.1) && (backToKw pos (keywordEach [] env)).all (·.1.isSome)) && decide (((e :: es).length + ([] : List Keyword).length + if ([] : List Keyword).isEmpty then 0 else 1) < 30)) = true := by rfl)
    (hli : (apos.endLine == pos.line) = true := by rfl)
    (he : backTo pos (starEach (e :: es) env) = (false, eval e env) :: backTo pos (starEach es env) := by rfl) (hany : (backTo pos (starEach es env)).any (·.1) = false := by rfl) :
    EvE C n env (.Call (.Attribute o name apos) (e :: es) [] pos) ⟨loc, mu₀⟩ Q := by
  intro A s a r
  refine wpAny_Call_method hab hnum hli hpl hsl hty (wpAny_mono (h A s a r) ?_ fun _ _ x => x)
  rintro v s1 ⟨p, mu1, hv, rb, st, ht, hl⟩
  obtain ⟨t1, t2⟩ := ht s1 v rb hv
  refine ⟨t1, t2, ?_⟩
  refine callWith_x (Hp := fun _ => True) (fun h _ => keep_blt rfl h) (wpAny_mono (hl A s1 a (r.step rb st)) ?_ fun _ _ x => x) he hany
  rintro vs s2 ⟨ps, mu2, hvs, rb2, st2, hc⟩
  exact ⟨trivial, (hc A s2 (v :: vs) a rb2 (.cons (hv.mono (st2.tup rb)) hvs)).from (st.trans st2)⟩

/-! built-in calls -/
theorem pv1 {h : Heap} {vs : List Value} {p : PV} (x : PvAll h vs [p]) : ∃ v, vs = [v] ∧ Pv h v p := by
  cases x with | cons a b => cases b; exact ⟨_, rfl, a⟩
theorem pv2 {h : Heap} {vs : List Value} {p q : PV} (x : PvAll h vs [p, q]) : ∃ v u, vs = [v, u] ∧ Pv h v p ∧ Pv h u q := by
  cases x with | cons a b => cases b with | cons c d => cases d; exact ⟨_, _, rfl, a, c⟩
theorem pv3 {h : Heap} {vs : List Value} {p q r : PV} (x : PvAll h vs [p, q, r]) : ∃ v u z, vs = [v, u, z] ∧ Pv h v p ∧ Pv h u q ∧ Pv h z r := by
  cases x with | cons a b => cases b with | cons c d => cases d with | cons e f => cases f; exact ⟨_, _, _, rfl, a, c, e⟩

theorem C_len_tup {ds : List PyData} (hs : ds.length ≤ sizeLine) (h : K (.dat (.int ds.length)) mu) : CallOk C n mu (.builtin "len") [.dat (.tuple ds)] K := by
  intro A s vs a r hvs
  obtain ⟨v, rfl, hv⟩ := pv1 hvs
  cases hv with
  | tuple ho hc hd hr =>
  rename_i t o vs k
  have e : vs.size = ds.length := by rw [← Array.length_toList]; exact hr.length
  rw [sizeLine_eq] at hs
  exact len_tuple ⟨o, ho, hc, k, hd⟩ (by rw [e]; omega) ((Grow.refl s _).post r (p := .dat (.int _)) (e ▸ Rd.int _ _) h)
theorem C_len_list {b : Addr} {ds : List PyData} (hb : mu b = some (.list ds)) (hs : ds.length ≤ sizeLine) (h : K (.dat (.int ds.length)) mu) : CallOk C n mu (.builtin "len") [.ref b] K := by
  intro A s vs a r hvs
  obtain ⟨v, rfl, hv⟩ := pv1 hvs
  cases hv
  obtain ⟨vs, ⟨k, e1⟩, hr⟩ := (r.ok _ _ hb).1
  have e : vs.size = ds.length := by rw [← Array.length_toList]; exact hr.length
  rw [sizeLine_eq] at hs
  exact Calls.call_len_list ⟨_, e1, rfl, k, rfl⟩ (by rw [e]; omega) ((Grow.refl s _).post r (p := .dat (.int _)) (e ▸ Rd.int _ _) h)
theorem C_len_str {x : Str} (hs : x.length ≤ sizeLine) (h : K (.dat (.int x.length)) mu) : CallOk C n mu (.builtin "len") [.dat (.str x)] K := by
  intro A s vs a r hvs
  obtain ⟨v, rfl, hv⟩ := pv1 hvs
  cases hv
  rw [sizeLine_eq] at hs
  exact len_str (by omega) ((Grow.refl s _).post r (p := .dat (.int _)) (Rd.int _ _) h)
theorem C_str_str {x : Str} (h : K (.dat (.str x)) mu) : CallOk C n mu (.type "str") [.dat (.str x)] K := by
  intro A s vs a r hvs
  obtain ⟨v, rfl, hv⟩ := pv1 hvs
  cases hv
  exact P.str_of_str ((Grow.refl s s.toks).post r (p := .dat (.str _)) (Rd.str _ _) h)
theorem C_str_int {i : Int} (h0 : 0 ≤ i) (h1 : i < 1000000) (h : K (.dat (.str (Str.ofString (toString i)))) mu) : CallOk C n mu (.type "str") [.dat (.int i)] K := by
  intro A s vs a r hvs
  obtain ⟨v, rfl, hv⟩ := pv1 hvs
  cases hv
  exact str_of_int_fit (N := 1000000) (by split <;> omega) (by decide) fun _ => ((Grow.refl s _).post r (p := .dat (.str _)) (Rd.str _ _) h)
theorem C_int_str {i : Int} (h0 : 0 ≤ i) (h1 : i < 1000000) (h : K (.dat (.int i)) mu) : CallOk C n mu (.type "int") [.dat (.str (Str.ofString (toString i)))] K := by
  intro A s vs a r hvs
  obtain ⟨v, rfl, hv⟩ := pv1 hvs
  cases hv
  exact KIN.call_num h0 (by omega) ((Grow.refl s _).post r (p := .dat (.int _)) (Rd.int _ _) h)
theorem C_min {i j : Int} (h : K (.dat (.int (if j < i then j else i))) mu) : CallOk C n mu (.builtin "min") [.dat (.int i), .dat (.int j)] K := by
  intro A s vs a r hvs
  obtain ⟨v, u, rfl, hv, hu⟩ := pv2 hvs
  cases hv; cases hu
  refine min_two_ints a.handled fun h' tk k => ?_
  have g : Grow s { s with heap := h', toks := tk } := ⟨k, rfl, rfl⟩
  split
  · rename_i q; rw [if_pos q] at h; exact g.post r (p := .dat (.int _)) (Rd.int _ _) h
  · rename_i q; rw [if_neg q] at h; exact g.post r (p := .dat (.int _)) (Rd.int _ _) h
theorem C_abs {i : Int} (h : K (.dat (.int (if i < 0 then -i else i))) mu) : CallOk C n mu (.builtin "abs") [.dat (.int i)] K := by
  intro A s vs a r hvs
  obtain ⟨v, rfl, hv⟩ := pv1 hvs
  cases hv
  exact call_abs_int fun u tk => (Grow.refl s tk).post r (p := .dat (.int _)) (Rd.int _ _) h
theorem C_tuple {b : Addr} {ds : List PyData} (hb : mu b = some (.list ds)) (hs : ds.length ≤ sizeLine) (h : K (.dat (.tuple ds)) mu) : CallOk C n mu (.type "tuple") [.ref b] K := by
  intro A s vs a r hvs
  obtain ⟨v, rfl, hv⟩ := pv1 hvs
  cases hv
  obtain ⟨vs, ⟨k, e1⟩, hr⟩ := (r.ok _ _ hb).1
  have e : vs.size = ds.length := by rw [← Array.length_toList]; exact hr.length
  refine call_tuple_list ⟨_, e1, rfl, k, rfl⟩ (fun h' kk => ?_) (by rw [e]; exact hs)
  have g : Grow s { s with heap := h'.push { cls := .type "tuple", data := .seq vs } } := ⟨fun b o e => Heap.get?_push_of_some _ (kk _ _ e), rfl, rfl⟩
  exact g.post r (p := .dat (.tuple _)) (Rd.tuple (Heap.get?_push_size _ rfl) rfl rfl (hr.mono g.tup)) h
def PyData.isTup : PyData → Bool
  | .tuple _ => true
  | _ => false
theorem E_isi {loc : List (Str × PV)} {mu₀ : Mu} {np np2 pos : Pos} {e : Expr} (hm : C.mg "isinstance" = none) (hm2 : C.mg "tuple" = none) (h : EvE C n env e ⟨loc, mu₀⟩ fun p mu => ∃ d, p = .dat d ∧ (∀ b, d ≠ .bool b) ∧ Q (.dat (.bool (PyData.isTup d))) mu)
    (hg : env.globals = mainGlobals := by rfl) (hbl : env.builtins = builtinsNs := by rfl) (hx : env.kindOf "isinstance" = some .globalImplicit := by rfl) (hx2 : env.kindOf "tuple" = some .globalImplicit := by rfl) (hk : env.scope.kind = .function := by rfl)
    (he : backTo pos (starEach [e, .Name "tuple" np2] env) = [(false, eval e env), (false, eval (.Name "tuple" np2) env)] := by rfl) (hany : (backTo pos (starEach [.Name "tuple" np2] env)).any (·.1) = false := by rfl)
    (he2 : backTo pos (starEach [.Name "tuple" np2] env) = [(false, eval (.Name "tuple" np2) env)] := by rfl) :
    EvE C n env (.Call (.Name "isinstance" np) [e, .Name "tuple" np2] [] pos) ⟨loc, mu₀⟩ Q := by
  intro A s a r
  refine wpAny_Call_ofName (wp_blt r.rb hm boot_isinstance (by decide) ?_ hg hbl hx hk (by decide))
  refine callWith_x (Hp := fun _ => True) (fun h _ => keep_blt rfl h) ?_ (by rw [he, he2]) hany
  rw [he]
  refine Calls.spliced_cons (wpAny_mono (h A s a r) ?_ fun _ _ x => x)
  rintro v s1 ⟨p, mu1, hv, rb, st, d, rfl, hb, hq⟩
  refine Calls.spliced_cons (wp_blt rb hm2 boot_tuple (by decide) ?_ hg hbl hx2 hk (by decide))
  refine Calls.spliced_nil ⟨trivial, ?_⟩
  have fin : ∀ tk b, b = PyData.isTup d → Post C mu₀ s Q (.bool b) { s1 with toks := tk } := fun tk b e => Post.trans st (by subst e; exact (Grow.refl s1 tk).post rb (p := .dat (.bool _)) (Rd.bool _) hq)
  show wpAny _ _ (call (.builtin "isinstance") [v, .type "tuple"]) _ _ s1
  cases hv with
  | none => exact IsiPair.NoneType_tuple (fin _ _ rfl)
  | bool b => exact absurd rfl (hb b)
  | int i t => exact IsiPair.int_tuple (fin _ _ rfl)
  | str x t => exact IsiPair.str_tuple (fin _ _ rfl)
  | tuple ho hc hd hr => exact IsiPair.tuple_tuple ho hc (fin s1.toks _ rfl)
theorem C_join {x : Str} {b : Addr} {ys : List Str} (hb : mu b = some (.list (ys.map .str))) (hs : (ys.map (·.length)).sum + ys.length * x.length ≤ 16777216) (h : K (.dat (.str (Txt.join x ys))) mu) : CallOk C n mu (.builtin "str.join") [.dat (.str x), .ref b] K := by
  intro A s vs a r hvs
  obtain ⟨v, u, rfl, hv, hu⟩ := pv2 hvs
  cases hv; cases hu
  obtain ⟨vs, ⟨k, e1⟩, hr⟩ := (r.ok _ _ hb).1
  have key : ∀ {us : List Value} {zs : List Str}, RdAll s.heap us (zs.map .str) → StrsAre us zs := by
    intro us zs
    induction zs generalizing us with
    | nil => intro q; cases q; exact .nil
    | cons z zs ih => intro q; cases q with | cons q1 q2 => cases q1; exact .cons _ _ (ih q2)
  exact join_list ⟨_, e1, rfl, k, rfl⟩ (key hr) hs fun t' tk => (Grow.refl s tk).post r (p := .dat (.str _)) (Rd.str _ _) h
theorem C_starts {x y : Str} (h : K (.dat (.bool (Txt.startswith x y))) mu) : CallOk C n mu (.builtin "str.startswith") [.dat (.str x), .dat (.str y)] K := by
  intro A s vs a r hvs
  obtain ⟨v, u, rfl, hv, hu⟩ := pv2 hvs
  cases hv; cases hu
  exact SC.startswith ((Grow.refl s s.toks).post r (p := .dat (.bool _)) (Rd.bool _) h)
theorem C_append {b : Addr} {l : List PyData} {d : PyData} (hb : mu b = some (.list l)) (hs : l.length ≤ sizeLine) (h : K (.dat .none) (upd mu b (.list (l ++ [d])))) : CallOk C n mu (.builtin "list.append") [.ref b, .dat d] K := by
  intro A s vs a r hvs
  obtain ⟨v, u, rfl, hv, hu⟩ := pv2 hvs
  cases hv
  obtain ⟨vs, e1, hr⟩ := (r.ok _ _ hb).1
  have e : vs.size = l.length := by rw [← Array.length_toList]; exact hr.length
  refine wpAny_list_append_plain e1 (fun h' hl sb => ?_) (by rw [e]; exact hs)
  have hne : ∀ c o, s.heap.get? c = some o → c ≠ b → h'.get? c = some o := fun c o q1 q2 => (sb.2 c q2).trans q1
  have tk : TupKeep s.heap h' := fun c o ws k q1 q2 q3 => hne c o q1 fun q4 => by
    obtain ⟨k', e1'⟩ := e1
    rw [q4, e1'] at q1; cases q1; simp at q2
  refine ⟨.dat .none, upd mu b (.list (l ++ [d])), Rd.none, ⟨fun c o q => hne c o (r.base _ _ q) fun q4 => ?_, fun c o q => ?_⟩, ⟨fun c o q1 q2 => hne c o q1 fun q4 => (by rw [q4, hb] at q2; cases q2), fun c o q1 q2 => ?_, rfl, rfl⟩, h⟩
  · rw [q4, (r.ok _ _ hb).2] at q; cases q
  · unfold upd at q
    split at q
    · rename_i q1; subst q1; cases q
      exact ⟨⟨_, hl, by rw [Array.toList_push]; exact (hr.append (.cons hu .nil)).mono tk⟩, (r.ok _ _ hb).2⟩
    · rename_i q1
      exact ⟨(r.ok _ _ q).1.grow (fun o q2 => hne c o q2 q1) tk, (r.ok _ _ q).2⟩
  · have : c ≠ b := fun q4 => by rw [q4, hb] at q2; cases q2
    rw [upd_ne _ this]; exact q2
theorem C_split {x y : Str} (hy : (y.length == 0) = false) (hs : x.length + 2 ≤ sizeLine) (h : ∀ b, mu b = none → K (.ref b) (upd mu b (.list ((Txt.split x y).map .str)))) : CallOk C n mu (.builtin "str.split") [.dat (.str x), .dat (.str y)] K := by
  intro A s vs a r hvs
  obtain ⟨v, u, rfl, hv, hu⟩ := pv2 hvs
  cases hv; cases hu
  rename_i t u
  have fin : ∀ (l : List (Str × Tok)) (tk : Nat), l.map (·.1) = Txt.split x y → Post C mu s K (.ref s.heap.objs.size) { s with heap := s.heap.push { cls := .type "list", data := .seq (strValues l).toArray }, toks := tk } := by
    intro l tk e
    have g := Grow.push s { cls := .type "list", data := .seq (strValues l).toArray } tk
    refine post_new (o := .list ((Txt.split x y).map .str)) r (noLive _) g.keep ⟨(strValues l).toArray, ⟨_, Heap.get?_push_size _ rfl⟩, ?_⟩ rfl rfl h
    rw [← e]
    have key : ∀ l : List (Str × Tok), RdAll (s.heap.push { cls := .type "list", data := .seq (strValues l).toArray }) (strValues l) ((l.map (·.1)).map .str) := by
      intro l
      have : ∀ (h : Heap) (l : List (Str × Tok)), RdAll h (strValues l) ((l.map (·.1)).map .str) := fun h l => by
        induction l with
        | nil => exact .nil
        | cons q l ih => exact .cons (.str _ _) ih
      exact this _ l
    simpa using key l
  have hn : (Builtin.Str.partsBetween x (Builtin.Str.occurrences x y 0 x.length (x.length + 1)) y.length).length ≤ sizeLine := by
    have e1 := StrLaws.occ_length_le x y 0 x.length (x.length + 1)
    rw [length_partsBetween]; omega
  cases h1 : (decide (x.length < y.length) || decide (Builtin.Str.strKind x < Builtin.Str.strKind y))
  · cases hf : (Builtin.Str.occurrences x y 0 x.length (x.length + 1)).isEmpty
    · refine call_meets F.slot_str_split (typeIs_str _ _ _) F.entry_str_split (F.args_str_split_2 _ _) (meets_str_split_sep x y t u h1 hy hf (by omega) hn) ?_
      show wants _ _ _ { s with toks := _, heap := s.heap.push { cls := .type "list", data := .seq (strsFrom s.toks (Builtin.Str.partsBetween x (Builtin.Str.occurrences x y 0 x.length (x.length + 1)) y.length)).toArray } }
      rw [strsFrom_eq]
      exact fin (numbered s.toks _) _ ((numbered_texts _ _).trans ((if_neg (ne_true_of_eq_false h1)).trans (if_neg (ne_true_of_eq_false hf))).symm)
    · exact call_meets F.slot_str_split (typeIs_str _ _ _) F.entry_str_split (F.args_str_split_2 _ _) (meets_str_split_not_found x y t u h1 hy hf)
        (fin [(x, t)] s.toks ((if_neg (ne_true_of_eq_false h1)).trans (if_pos hf)).symm)
  · exact call_meets F.slot_str_split (typeIs_str _ _ _) F.entry_str_split (F.args_str_split_2 _ _) (meets_str_split_cannot_occur x y t u h1)
      (fin [(x, t)] s.toks (if_pos h1).symm)

theorem C_get {b : Addr} {l : List (Str × PV)} {x : Str} {p : PV} (hb : mu b = some (.dict l)) (hsy : (b == sysModules) = false) (h : K ((l.lookup x).getD p) mu) : CallOk C n mu (.builtin "dict.get") [.ref b, .dat (.str x), p] K := by
  intro A s vs a r hvs
  obtain ⟨v, u, z, rfl, hv, hu, hz⟩ := pv3 hvs
  cases hv; cases hu
  rename_i t
  obtain ⟨kvs, e, dr⟩ := (r.ok _ _ hb).1
  have hm := e.mapOf
  refine call_meetsIn F.slot_dict_get hm.typeIs F.entry_dict_get (F.args_dict_get_3 _ _ _) (meets_dict_get_default _ _ (strKind_is C.prog C.w x t) hsy z) ⟨_, hm, ?_⟩
  show Post C mu s K ((valueAt kvs x).getD z) { s with toks := s.toks + 1 }
  refine (Grow.refl s (s.toks + 1)).post r ?_ h
  cases hl : l.lookup x with
  | some q => obtain ⟨w, e1, e2⟩ := valueAt_dr dr hl; rw [e1]; exact e2
  | none =>
    have : valueAt kvs x = none := by
      clear h hm e hb
      induction dr with
      | nil => rfl
      | cons q1 q2 ih =>
        rename_i k' v' p' kvs' l'
        rw [List.lookup_cons] at hl
        by_cases hk : x = k'
        · subst hk; rw [beq_self_eq_true] at hl; cases hl
        · rw [show (x == k') = false from beq_false_of_ne hk] at hl
          have := ih hl
          unfold valueAt at this ⊢
          rw [List.find?_cons_of_neg]
          · exact this
          · simpa using fun q => hk q.symm
    rw [this]; exact hz

/-! a dict's display with written keys: key, value pairs -/
def EvD (C : Cx) (n : Nat) (env : Env) (pos : Pos) (ks : List (Option Expr)) (vs : List Expr) (S : St) (Q : List (Str × PV) → Mu → Prop) : Prop :=
  ∀ A s, Room n A → R C env s.heap S → wpAny C.M A (evalPairs (pairTrees ks vs env pos)) (fun l s' => ∃ kvs ps mu', Carries (strKind C.prog C.w) l kvs ∧ DR s'.heap kvs ps ∧ C.RB s'.heap mu' ∧ Step S.mu mu' s s' ∧ Q ps mu') No s
theorem D_nil {loc : List (Str × PV)} {mu₀ : Mu} {pos : Pos} {Q : List (Str × PV) → Mu → Prop} (h : Q [] mu₀) : EvD C n env pos [] [] ⟨loc, mu₀⟩ Q :=
  fun _ s _ r => wpAny_pure ⟨[], [], mu₀, trivial, .nil, r.rb, Step.refl _ s, h⟩
theorem D_cons {loc : List (Str × PV)} {mu₀ : Mu} {pos : Pos} {x : Str} {k : Nat} {kp : Pos} {e : Expr} {ks : List (Option Expr)} {es : List Expr} {Q : List (Str × PV) → Mu → Prop}
    (h : EvE C n env e ⟨loc, mu₀⟩ fun p mu1 => EvD C n env pos ks es ⟨loc, mu1⟩ fun ps mu2 => Q ((x, p) :: ps) mu2) : EvD C n env pos (some (.Constant (.str x) k kp) :: ks) (e :: es) ⟨loc, mu₀⟩ Q := by
  intro A s a r
  show wpAny C.M A (evalPairs ((eval (.Constant (.str x) k kp) env, (do let v ← eval e env; standAt pos; pure v)) :: pairTrees ks es env pos)) _ No s
  unfold evalPairs
  refine wpAny_bind (Calls.Constant_str ?_)
  refine wpAny_bind (wpAny_holding (wpAny_bind (wpAny_mono (h A { s with toks := s.toks + 1 } a r) ?_ fun _ _ x => x)))
  rintro v s1 ⟨p, mu1, hv, rb, st, h1⟩
  refine wpAny_bind (wpAny_standAt (wpAny_pure ?_))
  have st : Step mu₀ mu1 s s1 := Step.trans (Grow.step (Grow.refl s (s.toks + 1))) st
  refine wpAny_bind (wpAny_holding (wpAny_mono (h1 A s1 a (r.step rb st)) ?_ fun _ _ x => x))
  rintro l s2 ⟨kvs, ps, mu2, hc, hd, rb2, st2, h2⟩
  refine wpAny_pure ⟨(x, v) :: kvs, (x, p) :: ps, mu2, ?_, .cons (hv.mono (st2.tup rb)) hd, rb2, ?_, h2⟩
  · exact ⟨strKind_is C.prog C.w x _, rfl, hc⟩
  · exact st.trans st2

theorem post_upd {s s1 : Shared} {mu1 : Mu} {d : Addr} {o : MO} {h' : Heap} {tk : Nat} (st : Step mu mu1 s s1) (rb : C.RB s1.heap mu1) (hd : s.heap.get? d = none) (hm : mu1 d = none) (hb : C.h.get? d = none)
    (sb : Heap.SameBut d s1.heap h') (hnt : ∀ ob, s1.heap.get? d = some ob → ob.cls ≠ .type "tuple") (ho : TupKeep s1.heap h' → MOok C.prog C.w h' d o) (h : K (.ref d) (upd mu1 d o)) : Post C mu s K (.ref d) { s1 with heap := h', toks := tk } := by
  have hne : ∀ c o, s1.heap.get? c = some o → c ≠ d → h'.get? c = some o := fun c o q1 q2 => (sb.2 c q2).trans q1
  have tk : TupKeep s1.heap h' := fun c o ws k q1 q2 q3 => hne c o q1 fun q4 => hnt o (q4 ▸ q1) q2
  refine ⟨.ref d, upd mu1 d o, rfl, ⟨fun c ob q => hne c ob (rb.base _ _ q) fun q4 => ?_, fun c ob q => ?_⟩, ⟨fun c ob q1 q2 => hne c ob (st.keep _ _ q1 q2) fun q4 => (by rw [q4, hd] at q1; cases q1), fun c ob q1 q2 => ?_, st.gens, st.os⟩, h⟩
  · rw [q4, hb] at q; cases q
  · unfold upd at q
    split at q
    · rename_i q1; subst q1; cases q; exact ⟨ho tk, hb⟩
    · rename_i q1; exact ⟨(rb.ok _ _ q).1.grow (fun o q2 => hne c o q2 q1) tk, (rb.ok _ _ q).2⟩
  · have : c ≠ d := fun q4 => by rw [q4, hd] at q1; cases q1
    rw [upd_ne _ this]; exact st.fresh _ _ q1 q2

def mergedP (acc ps : List (Str × PV)) : List (Str × PV) := ps.foldl (fun acc kv => storedP acc kv.1 kv.2) acc
theorem DR.merged {h : Heap} : ∀ {kvs : List (Str × Value)} {ps : List (Str × PV)} {a : List (Str × Value)} {b : List (Str × PV)}, DR h a b → DR h kvs ps → DR h (PySem.merged a kvs) (mergedP b ps)
  | _, _, _, _, x, .nil => x
  | _, _, _, _, x, .cons (kvs := kvs) (l := l) v r => DR.merged (kvs := kvs) (ps := l) (x.stored v) r

theorem E_dict {loc : List (Str × PV)} {mu₀ : Mu} {keys : List (Option Expr)} {values : List Expr} {pos : Pos} (hs : keys.all (·.isSome) = true) (hl : keys.length = values.length) (hne : keys ≠ []) (h15 : keys.length ≤ 15)
    (h : EvD C n env pos keys values ⟨loc, mu₀⟩ fun ps mu => ∀ d, mu d = none → Q (.ref d) (upd mu d (.dict (mergedP [] ps)))) : EvE C n env (.Dict keys values pos) ⟨loc, mu₀⟩ Q := by
  intro A s a r
  have g := Grow.push s { cls := .type "dict", data := .dict #[] } s.toks
  have r0 : R C env (s.heap.push { cls := .type "dict", data := .dict #[] }) ⟨loc, mu₀⟩ := r.step (s := s) (s' := { s with heap := s.heap.push { cls := .type "dict", data := .dict #[] } }) (g.rb r.rb) g.step
  have hd0 : (s.heap.push { cls := .type "dict", data := .dict #[] }).get? s.heap.objs.size = some { cls := .type "dict", data := .dict #[] } := Heap.get?_push_size _ rfl
  refine wpAny_Dict_walk (knd := strKind C.prog C.w) hs hl hne h15 (wpAny_mono (h A { s with heap := s.heap.push { cls := .type "dict", data := .dict #[] } } a r0) ?_ fun _ _ x => x)
  rintro l s1 ⟨kvs, ps, mu1, hc, hd, rb, st, h1⟩
  have hlive := st.keep _ _ hd0 (RB.noSize r.rb)
  refine ⟨kvs, hc, ?_, fun h' hD sb => ?_⟩
  · exact ⟨_, #[], 0, hlive, ⟨rfl, rfl, rfl⟩, rfl, fun e he => by simp at he, .nil, .nil⟩
  · refine post_upd (o := .dict (mergedP [] ps)) (g.step.trans st) rb (noLive _) (st.fresh _ _ hd0 (RB.noSize r.rb)) (RB.noBase r.rb (noLive _)) sb (fun ob q => ?_) (fun tk => ⟨_, hD, ?_⟩) (h1 _ (st.fresh _ _ hd0 (RB.noSize r.rb)))
    · rw [hlive] at q; cases q; simp
    · exact DR.merged .nil (hd.mono tk)
end
end
section
inductive Fl where
  | next
  | ret (p : PV)
def FlIs (h : Heap) : Flow → Fl → Prop
  | .next, .next => True
  | .ret v, .ret p => Pv h v p
  | _, _ => False
theorem FlIs.mono {h h' : Heap} (k : TupKeep h h') {f : Flow} {fl : Fl} (x : FlIs h f fl) : FlIs h' f fl := by
  cases f <;> cases fl <;> first | exact x | exact Pv.mono k x | exact x.elim

structure StepL (env : Env) (mu mu' : Mu) (s s' : Shared) : Prop where
  keep : ∀ a o, s.heap.get? a = some o → mu a = none → a ≠ env.locals → s'.heap.get? a = some o
  fresh : ∀ a o, s.heap.get? a = some o → mu a = none → mu' a = none
  live : ∀ a o, s.heap.get? a = some o → mu a = none → ∃ o', s'.heap.get? a = some o'
  gens : s'.gens = s.gens
  os : s'.os = s.os

section
variable {C : Cx} {n : Nat} {env : Env} {S S' : St} {s s' s1 : Shared} {mu mu' mu1 : Mu} {h h' : Heap}

theorem StepL.refl (mu : Mu) (s : Shared) : StepL env mu mu s s := ⟨fun _ _ e _ _ => e, fun _ _ _ e => e, fun _ o e _ => ⟨o, e⟩, rfl, rfl⟩
theorem Step.toL (x : Step mu mu' s s') : StepL env mu mu' s s' := ⟨fun a o e m _ => x.keep a o e m, x.fresh, fun a o e m => ⟨o, x.keep a o e m⟩, x.gens, x.os⟩
theorem StepL.trans {m2 : Mu} {s2 : Shared} (x : StepL env mu mu1 s s1) (y : StepL env mu1 m2 s1 s2) : StepL env mu m2 s s2 :=
  ⟨fun a o e m q1 => y.keep a o (x.keep a o e m q1) (x.fresh a o e m) q1,
   fun a o e m => let ⟨o', e'⟩ := x.live a o e m; y.fresh a o' e' (x.fresh a o e m),
   fun a o e m => let ⟨o', e'⟩ := x.live a o e m; y.live a o' e' (x.fresh a o e m), y.gens.trans x.gens, y.os.trans x.os⟩

theorem R.notL (r : R C env h S) {a : Addr} {o : Obj} (e : h.get? a = some o) (hd : ∀ es ep, o.data ≠ .dict es ep) : a ≠ env.locals := by
  rintro rfl
  obtain ⟨m, ⟨o', es, ep, ho, hd', _⟩, _⟩ := r.ns
  rw [e] at ho; cases ho
  exact hd _ _ hd'
theorem StepL.tup (r : R C env s.heap S) (st : StepL env S.mu mu' s s') : TupKeep s.heap s'.heap := fun a o vs k e c d =>
  st.keep a o e (RB.tup r.rb e c d) (r.notL e fun es ep q => by rw [d] at q; cases q)

/-- what an address must not be, for its object to change unseen -/
structure Free (C : Cx) (env : Env) (h : Heap) (S : St) (b : Addr) : Prop where
  mu : S.mu b = none
  loc : b ≠ env.locals
  base : C.h.get? b = none
  tup : ∀ ob, h.get? b = some ob → ob.cls ≠ .type "tuple" ∨ ∀ vs k, ob.data ≠ .seq vs k
theorem R.but {X : Addr → Prop} (r : R C env h S) (hk : ∀ b o, h.get? b = some o → ¬ X b → h'.get? b = some o) (hX : ∀ b, X b → Free C env h S b) : R C env h' S ∧ TupKeep h h' := by
  have tk : TupKeep h h' := fun a o vs k e c d => hk a o e fun x => ((hX a x).tup o e).elim (fun q => q c) fun q => q _ _ d
  refine ⟨⟨⟨fun b o e => hk b o (r.rb.base b o e) fun x => ?_, fun a o e => ⟨(r.rb.ok a o e).1.grow (fun o q => hk a o q fun x => ?_) tk, (r.rb.ok a o e).2⟩⟩, r.own, r.above, ?_⟩, tk⟩
  · rw [(hX b x).base] at e; cases e
  · rw [(hX a x).mu] at e; cases e
  · obtain ⟨m, ⟨o, es, ep, ho, q⟩, hv⟩ := r.ns
    exact ⟨m, ⟨o, es, ep, hk _ _ ho fun x => (hX _ x).loc rfl, q⟩, fun x p e k => let ⟨v, a, b⟩ := hv x p e k; ⟨v, a, b.mono tk⟩⟩

theorem lookup_cons_self {x : Str} {p : PV} {l : List (Str × PV)} : ((x, p) :: l).lookup x = some p := by rw [List.lookup_cons, beq_self_eq_true]
theorem lookup_cons_ne {x y : Str} {p : PV} {l : List (Str × PV)} (h : y ≠ x) : ((x, p) :: l).lookup y = l.lookup y := by rw [List.lookup_cons, show (y == x) = false from beq_false_of_ne h]

theorem R.store {x : Str} {v : Value} {p : PV} {m : Str → Option Value} (r : R C env h S) (hm : h.Ns env.locals m ∧ ∀ x p, S.loc.lookup x = some p → env.kindOf x = some .local → ∃ v, m x = some v ∧ Pv h v p)
    (hp : Pv h v p) (hn : h'.Ns env.locals (fun y => if y = x then some v else m y)) (sb : Heap.SameBut env.locals h h') : R C env h' ⟨(x, p) :: S.loc, S.mu⟩ ∧ TupKeep h h' := by
  have hk : ∀ b o, h.get? b = some o → b ≠ env.locals → h'.get? b = some o := fun b o e q => (sb.2 b q).trans e
  have tk : TupKeep h h' := fun a o vs k e c d => hk a o e (r.notL e fun es ep q => by rw [d] at q; cases q)
  refine ⟨⟨⟨fun b o e => hk b o (r.rb.base b o e) fun q => ?_, fun a o e => ⟨(r.rb.ok a o e).1.grow (fun o q => hk a o q fun q2 => ?_) tk, (r.rb.ok a o e).2⟩⟩, r.own, r.above, ⟨_, hn, fun y q e k => ?_⟩⟩, tk⟩
  · rw [q, r.above] at e; cases e
  · rw [q2, r.own] at e; cases e
  · by_cases hy : y = x
    · subst hy
      rw [lookup_cons_self] at e; cases e
      exact ⟨v, if_pos rfl, hp.mono tk⟩
    · rw [lookup_cons_ne hy] at e
      obtain ⟨u, a, b⟩ := hm.2 y q e k
      exact ⟨u, by simp [hy, a], b.mono tk⟩

/-- fewer things known -/
structure Sub (S S' : St) : Prop where
  loc : ∀ x p, S.loc.lookup x = some p → S'.loc.lookup x = some p
  mu : ∀ a o, S.mu a = some o → S'.mu a = some o
theorem RB.less (r : C.RB h mu) (hs : ∀ a o, mu' a = some o → mu a = some o) : C.RB h mu' := ⟨r.base, fun a o e => r.ok a o (hs a o e)⟩
theorem none_less (hs : ∀ a o, mu' a = some o → mu a = some o) {a : Addr} (e : mu a = none) : mu' a = none := by
  cases q : mu' a with
  | none => rfl
  | some o => rw [hs a o q] at e; cases e
theorem R.less (r : R C env h S) (hs : Sub S' S) : R C env h S' :=
  ⟨RB.less r.rb hs.mu, none_less hs.mu r.own, r.above, let ⟨m, a, b⟩ := r.ns; ⟨m, a, fun x p e k => b x p (hs.loc x p e) k⟩⟩
theorem StepL.less (x : StepL env mu mu1 s s') (hs : ∀ a o, mu' a = some o → mu1 a = some o) : StepL env mu mu' s s' := ⟨x.keep, fun a o e m => none_less hs (x.fresh a o e m), x.live, x.gens, x.os⟩
theorem Step.less (x : Step mu mu1 s s') (hs : ∀ a o, mu' a = some o → mu1 a = some o) : Step mu mu' s s' := ⟨x.keep, fun a o e m => none_less hs (x.fresh a o e m), x.gens, x.os⟩
end

def PostS (C : Cx) (env : Env) (mu : Mu) (s : Shared) (Q : Fl → St → Prop) : Flow → Shared → Prop := fun f s' =>
  ∃ fl S', FlIs s'.heap f fl ∧ R C env s'.heap S' ∧ StepL env mu S'.mu s s' ∧ Q fl S'
def EvX (C : Cx) (n : Nat) (env : Env) (t : Sem Flow) (S : St) (Q : Fl → St → Prop) : Prop :=
  ∀ A s, Room n A → R C env s.heap S → wpAny C.M A t (PostS C env S.mu s Q) No s
abbrev EvS (C : Cx) (n : Nat) (env : Env) (ss : List Stmt) (S : St) (Q : Fl → St → Prop) : Prop := EvX C n env (execs ss env) S Q
abbrev EvS1 (C : Cx) (n : Nat) (env : Env) (st : Stmt) (S : St) (Q : Fl → St → Prop) : Prop := EvX C n env (exec st env) S Q

section
variable {C : Cx} {n : Nat} {env : Env} {S : St} {Q : Fl → St → Prop}

theorem PostS.trans {mu mu1 : Mu} {s s1 s' : Shared} (st : StepL env mu mu1 s s1) {f : Flow} (x : PostS C env mu1 s1 Q f s') : PostS C env mu s Q f s' :=
  let ⟨fl, S', a, b, c, d⟩ := x; ⟨fl, S', a, b, st.trans c, d⟩

theorem S_nil {loc : List (Str × PV)} {mu₀ : Mu} (h : Q .next ⟨loc, mu₀⟩) : EvS C n env [] ⟨loc, mu₀⟩ Q := fun _ s _ r => wpAny_execs_nil ⟨.next, ⟨loc, mu₀⟩, trivial, r, StepL.refl _ s, h⟩
abbrev ContS (C : Cx) (n : Nat) (env : Env) (rest : List Stmt) (Q : Fl → St → Prop) : Fl → St → Prop := fun fl S' => match fl with | .next => EvS C n env rest S' Q | .ret p => Q (.ret p) S'
abbrev RetQ (loc : List (Str × PV)) (Q : Fl → St → Prop) : PV → Mu → Prop := fun p mu => Q (.ret p) ⟨loc, mu⟩
abbrev AsgK (x : Str) (loc : List (Str × PV)) (Q : Fl → St → Prop) : PV → Mu → Prop := fun p mu => Q .next ⟨(x, p) :: loc, mu⟩
theorem S_cons {loc : List (Str × PV)} {mu₀ : Mu} {st : Stmt} {rest : List Stmt} (h : EvS1 C n env st ⟨loc, mu₀⟩ (ContS C n env rest Q)) : EvS C n env (st :: rest) ⟨loc, mu₀⟩ Q := by
  intro A s a r
  refine wpAny_execs_cons (wpAny_mono (h A s a r) ?_ fun _ _ x => x)
  rintro f s1 ⟨fl, S', hf, r1, st1, h1⟩
  cases f <;> cases fl <;> first | exact hf.elim | skip
  · exact wpAny_mono (h1 A s1 a r1) (fun _ _ x => x.trans st1) fun _ _ x => x
  · exact ⟨_, S', hf, r1, st1, h1⟩

theorem S_ret {loc : List (Str × PV)} {mu₀ : Mu} {e : Expr} {pos : Pos} (h : EvE C n env e ⟨loc, mu₀⟩ (RetQ loc Q)) : EvS1 C n env (.Return (some e) pos) ⟨loc, mu₀⟩ Q := by
  intro A s a r
  refine wpAny_Return_some (wpAny_mono (h A s a r) ?_ fun _ _ x => x)
  rintro v s1 ⟨p, mu1, hv, rb, st, h1⟩
  exact ⟨.ret p, ⟨loc, mu1⟩, hv, r.step rb st, st.toL, h1⟩

theorem wp_store {A : Around} {s s0 : Shared} {mu0 : Mu} {x : Str} {v : Value} {p : PV} {P : Unit → Shared → Prop} (r : R C env s.heap S) (hv : Pv s.heap v p) (st : StepL env mu0 S.mu s0 s)
    (h : ∀ s', R C env s'.heap ⟨(x, p) :: S.loc, S.mu⟩ → StepL env mu0 S.mu s0 s' → TupKeep s.heap s'.heap → Heap.SameBut env.locals s.heap s'.heap → P () s') (hx : env.kindOf x = some .local) (hk : env.scope.kind = .function) : wpAny C.M A (storeName env x v) P No s := by
  obtain ⟨m, hn, hm⟩ := r.ns
  refine wpAny_storeName_local hx hn (fun h' hn' sb => ?_) (by rw [hk]; rfl)
  obtain ⟨r', tk⟩ := r.store ⟨hn, hm⟩ hv hn' sb
  refine h { s with heap := h', toks := s.toks + 1 } r' (st.trans ⟨fun a o e _ q => (sb.2 a q).trans e, fun a o e m => m, fun a o e _ => ?_, rfl, rfl⟩) tk sb
  by_cases q : a = env.locals
  · subst q; obtain ⟨o', _, _, ho', _⟩ := hn'; exact ⟨o', ho'⟩
  · exact ⟨o, (sb.2 a q).trans e⟩

theorem S_assign {loc : List (Str × PV)} {mu₀ : Mu} {x : Str} {xp pos : Pos} {e : Expr} (h : EvE C n env e ⟨loc, mu₀⟩ (AsgK x loc Q))
    (hx : env.kindOf x = some .local := by rfl) (hk : env.scope.kind = .function := by rfl) (hs : swapsWith e (some (.Name x xp)) pos.line env = pure false := by rfl) : EvS1 C n env (.Assign [.Name x xp] e pos) ⟨loc, mu₀⟩ Q := by
  intro A s a r
  refine wpAny_Assign_Name (wpAny_mono (h A s a r) ?_ fun _ _ x => x) hs
  rintro v s1 ⟨p, mu1, hv, rb, st, h1⟩
  exact wp_store (S := ⟨loc, mu1⟩) (r.step rb st) hv st.toL (fun s' r' st' _ _ => ⟨.next, _, trivial, r', st', h1⟩) hx hk

abbrev IfS (C : Cx) (n : Nat) (env : Env) (body orelse : List Stmt) (loc : List (Str × PV)) (Q : Fl → St → Prop) : Bool → Mu → Prop := fun b mu => if b = true then EvS C n env body ⟨loc, mu⟩ Q else EvS C n env orelse ⟨loc, mu⟩ Q
theorem S_if {loc : List (Str × PV)} {mu₀ : Mu} {test : Expr} {body orelse : List Stmt} {pos : Pos} (h : EvT C n env test ⟨loc, mu₀⟩ (IfS C n env body orelse loc Q)) : EvS1 C n env (.If test body orelse pos) ⟨loc, mu₀⟩ Q := by
  intro A s a r
  refine wpAny_If (wpAny_mono (h A s a r) ?_ fun _ _ x => x)
  rintro b s1 ⟨mu1, rb, st, h1⟩
  change if _ = true then _ else _ at h1
  split
  · rename_i e; rw [if_pos e] at h1; exact wpAny_mono (h1 A s1 a (r.step rb st)) (fun _ _ x => x.trans st.toL) fun _ _ x => x
  · rename_i e; rw [if_neg e] at h1; exact wpAny_mono (h1 A s1 a (r.step rb st)) (fun _ _ x => x.trans st.toL) fun _ _ x => x

def PV.quiet : PV → Bool
  | .dat (.tuple _) => false
  | .dat _ => true
  | .ref _ => false
theorem S_expr {loc : List (Str × PV)} {mu₀ : Mu} {e : Expr} {pos : Pos} (h : EvE C n env e ⟨loc, mu₀⟩ fun p mu => p.quiet = true ∧ Q .next ⟨loc, mu⟩) (hi : interactive env = false := by rfl) (hs : swapsWith e none pos.line env = pure false := by rfl) : EvS1 C n env (.Expr e pos) ⟨loc, mu₀⟩ Q := by
  intro A s a r
  refine wpAny_Expr (wpAny_mono (h A s a r) ?_ fun _ _ x => x) hi hs
  rintro v s1 ⟨p, mu1, hv, rb, st, hq, h1⟩
  have fin : PostS C env mu₀ s Q .next s1 := ⟨.next, ⟨loc, mu1⟩, trivial, r.step rb st, st.toL, h1⟩
  cases p with
  | ref b => cases hq
  | dat d => cases hv <;> first | exact fin | cases hq

theorem S_set {loc : List (Str × PV)} {mu₀ : Mu} {o i e : Expr} {sp pos : Pos} (h : EvE C n env e ⟨loc, mu₀⟩ fun p mu1 => EvE C n env o ⟨loc, mu1⟩ fun po mu2 => EvE C n env i ⟨loc, mu2⟩ fun pi mu3 =>
      ∃ a l x, po = .ref a ∧ pi = .dat (.str x) ∧ mu3 a = some (.dict l) ∧ l.length ≤ 1000 ∧ Q .next ⟨loc, upd mu3 a (.dict (storedP l x p))⟩)
    (hs : swapsWith e (some (.Subscript o i sp)) pos.line env = pure false := by rfl) : EvS1 C n env (.Assign [.Subscript o i sp] e pos) ⟨loc, mu₀⟩ Q := by
  intro A s a r
  refine wpAny_Assign_Subscript (wpAny_mono (h A s a r) ?_ fun _ _ x => x) hs
  rintro v s1 ⟨p, mu1, hv, rb, st, h1⟩
  have r1 := r.step rb st
  refine wpAny_mono (h1 A s1 a r1) ?_ fun _ _ x => x
  rintro ov s2 ⟨po, mu2, hov, rb2, st2, h2⟩
  have r2 : R C env s2.heap ⟨loc, mu2⟩ := r1.step rb2 st2
  refine wpAny_mono (h2 A s2 a r2) ?_ fun _ _ x => x
  rintro iv s3 ⟨pi, mu3, hiv, rb3, st3, b, l, x, rfl, rfl, hb, hl, h3⟩
  have r3 : R C env s3.heap ⟨loc, mu3⟩ := r2.step rb3 st3
  cases hov; cases hiv
  rename_i t
  have hv3 : Pv s3.heap v p := (hv.mono (st2.tup rb)).mono (st3.tup rb2)
  obtain ⟨kvs, hd, dr⟩ := (rb3.ok _ _ hb).1
  refine wpAny_setItem_pairs (strKind_is C.prog C.w x t) hd (fun h' hd' sb => ?_) (by rw [dr.length, sizeLine_eq]; omega)
  have hne : ∀ c o, s3.heap.get? c = some o → c ≠ b → h'.get? c = some o := fun c o q1 q2 => (sb.2 c q2).trans q1
  obtain ⟨ob, hob, _⟩ := MOok.obj (rb3.ok _ _ hb).1
  have hcls : ob.cls = .type "dict" := by
    obtain ⟨o', _, _, e', q', _⟩ := hd
    rw [hob] at e'; cases e'; exact q'.1
  have tk : TupKeep s3.heap h' := fun c o ws k q1 q2 q3 => hne c o q1 fun q4 => by
    rw [q4, hob] at q1; cases q1; rw [hcls] at q2; simp at q2
  have hbn := (rb3.ok _ _ hb).2
  have st4 : Step mu3 (upd mu3 b (.dict (storedP l x p))) s3 { s3 with heap := h', toks := s3.toks + 1 } := by
    refine ⟨fun c o q1 q2 => hne c o q1 fun q4 => (by rw [q4, hb] at q2; cases q2), fun c o q1 q2 => ?_, rfl, rfl⟩
    have : c ≠ b := fun q4 => by rw [q4, hb] at q2; cases q2
    rw [upd_ne _ this]; exact q2
  have rb4 : C.RB h' (upd mu3 b (.dict (storedP l x p))) := by
    refine ⟨fun c o q => hne c o (rb3.base _ _ q) fun q4 => ?_, fun c o q => ?_⟩
    · rw [q4, hbn] at q; cases q
    · unfold upd at q
      split at q
      · rename_i q1; subst q1; cases q
        exact ⟨⟨_, hd', DR.stored (hv3.mono tk) (dr.mono tk)⟩, hbn⟩
      · rename_i q1
        exact ⟨(rb3.ok _ _ q).1.grow (fun o q2 => hne c o q2 q1) tk, (rb3.ok _ _ q).2⟩
  exact ⟨.next, _, trivial, r3.step rb4 st4, (((st.trans st2).trans st3).trans st4).toL, h3⟩

/-! several names at once -/
def EvA (C : Cx) (n : Nat) (env : Env) (ts : List (Value → Sem Unit)) (ps : List PV) (S : St) (Q : St → Prop) : Prop :=
  ∀ A s vs, Room n A → R C env s.heap S → PvAll s.heap vs ps → wpAny C.M A (assignInOrder ts vs) (fun _ s' => ∃ S', R C env s'.heap S' ∧ StepL env S.mu S'.mu s s' ∧ Q S') No s
theorem A_nil {loc : List (Str × PV)} {mu₀ : Mu} {Q : St → Prop} (h : Q ⟨loc, mu₀⟩) : EvA C n env [] [] ⟨loc, mu₀⟩ Q := fun _ s _ _ r _ => wpAny_pure ⟨⟨loc, mu₀⟩, r, StepL.refl _ s, h⟩
theorem A_step {loc : List (Str × PV)} {mu₀ : Mu} {Q : St → Prop} {x : Str} {t : Value → Sem Unit} {ts : List (Value → Sem Unit)} {p : PV} {ps : List PV} (h : EvA C n env ts ps ⟨(x, p) :: loc, mu₀⟩ Q)
    (ht : ∀ {A : Around} {s : Shared} {v : Value} {P : Unit → Shared → Prop}, wpAny C.M A (storeName env x v) P No s → wpAny C.M A (t v) P No s)
    (hx : env.kindOf x = some .local) (hk : env.scope.kind = .function) : EvA C n env (t :: ts) (p :: ps) ⟨loc, mu₀⟩ Q := by
  intro A s vs a r hvs
  cases hvs with
  | cons hv hvs =>
  rename_i v vs
  show wpAny C.M A (do holding vs (t v); assignInOrder ts vs) _ No s
  refine wpAny_bind (wpAny_holding (ht ?_))
  exact wp_store r hv (StepL.refl _ s) (fun s' r' st' tk _ => wpAny_mono (h A s' vs a r' (hvs.mono tk)) (fun _ _ ⟨S', x1, x2, x3⟩ => ⟨S', x1, st'.trans x2, x3⟩) fun _ _ x => x) hx hk
theorem A_name {loc : List (Str × PV)} {mu₀ : Mu} {Q : St → Prop} {x : Str} {xp : Pos} {ts : List (Value → Sem Unit)} {p : PV} {ps : List PV} (h : EvA C n env ts ps ⟨(x, p) :: loc, mu₀⟩ Q)
    (hx : env.kindOf x = some .local := by rfl) (hk : env.scope.kind = .function := by rfl) : EvA C n env (assign (.Name x xp) env :: ts) (p :: ps) ⟨loc, mu₀⟩ Q :=
  A_step h (fun h => wpAny_assign_Name h) hx hk
theorem A_bind {loc : List (Str × PV)} {mu₀ : Mu} {Q : St → Prop} {x : Str} {ts : List (Value → Sem Unit)} {p : PV} {ps : List PV} (h : EvA C n env ts ps ⟨(x, p) :: loc, mu₀⟩ Q)
    (hx : env.kindOf x = some .local := by rfl) (hk : env.scope.kind = .function := by rfl) : EvA C n env ((fun v => bindName env x v) :: ts) (p :: ps) ⟨loc, mu₀⟩ Q :=
  A_step h (fun h => bindName_ h) hx hk

theorem grow_ext {s : Shared} {h' : Heap} (e : Heap.ExtBut s.heap.objs.size s.heap h') : Grow s { s with heap := h' } := ⟨fun b o q => e b o (Nat.ne_of_lt (Heap.lt_size q)) q, rfl, rfl⟩
theorem RdAll.pv {h : Heap} : ∀ {vs : List Value} {ds : List PyData}, RdAll h vs ds → PvAll h vs (ds.map .dat)
  | _, _, .nil => .nil
  | _, _, .cons a b => .cons (p := .dat _) a b.pv

theorem S_unpack {loc : List (Str × PV)} {mu₀ : Mu} {elts : List Expr} {k : Nat} {tp pos : Pos} {e : Expr} (h : EvE C n env e ⟨loc, mu₀⟩ fun p mu => ∃ ds, p = .dat (.tuple ds) ∧ (assignEach elts env).length = ds.length ∧ EvA C n env ((assignEach elts env).map (·.2)) (ds.map .dat) ⟨loc, mu⟩ (Q .next))
    (hst : (assignEach elts env).findIdx? (·.1) = none := by rfl) (hs : swapsWithSole [.Tuple elts k tp] e pos.line env = pure false := by rfl) (hw : swappedStores [.Tuple elts k tp] e env = pure none := by rfl) : EvS1 C n env (.Assign [.Tuple elts k tp] e pos) ⟨loc, mu₀⟩ Q := by
  intro A s a r
  refine Assign_Tuple (wpAny_mono (h A s a r) ?_ fun _ _ x => x) hs hw
  rintro v s1 ⟨p, mu1, hv, rb, st, ds, rfl, hl, h1⟩
  have r1 := r.step rb st
  cases hv with
  | tuple ho hc hd hr =>
  rename_i t o vs k
  have e1 : vs.size = ds.length := by rw [← Array.length_toList]; exact hr.length
  refine wpAny_assign_Tuple a.handled ⟨o, ho, hc, k, hd⟩ (by rw [hl, e1]) hst fun h' ext => ?_
  have g := grow_ext ext
  refine wpAny_mono (h1 A _ vs.toList a (r1.step (g.rb rb) g.step) (hr.mono g.tup).pv) ?_ fun _ _ x => x
  rintro _ s3 ⟨S', r3, st3, h3⟩
  exact ⟨.next, S', trivial, r3, (st.trans g.step).toL.trans st3, h3⟩

theorem PvAll.append {h : Heap} : ∀ {vs ws : List Value} {ps qs : List PV}, PvAll h vs ps → PvAll h ws qs → PvAll h (vs ++ ws) (ps ++ qs)
  | _, _, _, _, .nil, k => k
  | _, _, _, _, .cons a b, k => .cons a (b.append k)
theorem PvAll.reverse {h : Heap} : ∀ {vs : List Value} {ps : List PV}, PvAll h vs ps → PvAll h vs.reverse ps.reverse
  | _, _, .nil => .nil
  | _, _, .cons a b => by rw [List.reverse_cons, List.reverse_cons]; exact b.reverse.append (.cons a .nil)

theorem S_swap {loc : List (Str × PV)} {mu₀ : Mu} {elts es : List Expr} {k k2 : Nat} {tp ep pos : Pos} (names : List Str)
    (hw : swappedStores [.Tuple elts k tp] (.Tuple es k2 ep) env = pure (some names))
    (h : EvL C n env ep es ⟨loc, mu₀⟩ fun ps mu => ps.length = names.length ∧ ps.length ≤ sizeLine ∧ EvA C n env (names.reverse.map fun x => fun v => bindName env x v) ps.reverse ⟨loc, mu⟩ (Q .next))
    (hs : swapsWithSole [.Tuple elts k tp] (.Tuple es k2 ep) pos.line env = pure false := by rfl) : EvS1 C n env (.Assign [.Tuple elts k tp] (.Tuple es k2 ep) pos) ⟨loc, mu₀⟩ Q := by
  intro A s a r
  rw [exec_Assign]
  refine wpAny_bind (wpAny_standAt (wpAny_bind ?_))
  rw [hs]
  refine wpAny_pure ?_
  simp only [Bool.false_eq_true, if_false]
  refine wpAny_bind (Tuple_ (wpAny_mono (h A s a r) ?_ fun _ _ x => x))
  rintro vs s1 ⟨ps, mu1, hvs, rb, st, hl, hsz, h1⟩
  have r1 := r.step rb st
  have g := Grow.push s1 { cls := .type "tuple", data := .seq vs.toArray } s1.toks
  refine wpAny_newTuple ?_ (by rw [hvs.length]; exact hsz)
  rw [hw]
  refine wpAny_bind (wpAny_pure ?_)
  show wpAny C.M A (do rule "assign.swapped-stores"; let items ← unpackItems (Value.ref s1.heap.objs.size) names.length none; assignInOrder (names.reverse.map fun n => bindName env n) items.reverse; pure Flow.next) _ No _
  have e1 : names.length = vs.toArray.size := by rw [List.size_toArray, hvs.length, hl]
  rw [e1]
  refine wpAny_bind (wpAny_rule (wpAny_bind (wpAny_unpackItems_tuple a.handled ⟨_, Heap.get?_push_size _ rfl, rfl, _, rfl⟩ fun h' ext => ?_)))
  have g2 := grow_ext ext
  have rb2 : C.RB h' mu1 := g2.rb (g.rb rb)
  have st2 : Step mu₀ mu1 s { s1 with heap := h' } := (st.trans g.step).trans g2.step
  refine wpAny_bind (wpAny_mono (h1 A { s1 with heap := h' } vs.reverse a (r.step (s' := { s1 with heap := h' }) rb2 st2) (PvAll.reverse ((hvs.mono g.tup).mono g2.tup))) ?_ fun _ _ x => x)
  rintro _ s3 ⟨S', r3, st3, h3⟩
  exact wpAny_pure ⟨.next, S', trivial, r3, st2.toL.trans st3, h3⟩

/-! a function's frame -/
theorem lookup_zip {h : Heap} {x : Str} {p : PV} : ∀ {l : List (Str × PV)} {vl : List (Str × Value)}, l.map (·.1) = vl.map (·.1) → PvAll h (vl.map (·.2)) (l.map (·.2)) → l.lookup x = some p → ∃ v, vl.lookup x = some v ∧ Pv h v p
  | [], _, _, _, e => by simp at e
  | (y, q) :: l, [], e, _, _ => by simp at e
  | (y, q) :: l, (z, v) :: vl, e, a, hl => by
    simp only [List.map_cons, List.cons.injEq] at e
    obtain ⟨rfl, e⟩ := e
    cases a with
    | cons a b =>
    by_cases hx : x = y
    · subst hx
      rw [List.lookup_cons, beq_self_eq_true] at hl; cases hl
      exact ⟨v, by rw [List.lookup_cons, beq_self_eq_true], a⟩
    · rw [List.lookup_cons, show (x == y) = false from beq_false_of_ne hx] at hl
      obtain ⟨u, e1, e2⟩ := lookup_zip e b hl
      exact ⟨u, by rw [List.lookup_cons, show (x == y) = false from beq_false_of_ne hx]; exact e1, e2⟩
theorem map_fst_zip' {α β : Type} : ∀ {l : List α} {m : List β}, l.length = m.length → (l.zip m).map (·.1) = l
  | [], [], _ => rfl
  | [], _ :: _, h => by simp at h
  | _ :: _, [], h => by simp at h
  | a :: l, b :: m, h => by simp only [List.zip_cons_cons, List.map_cons, map_fst_zip' (l := l) (m := m) (by simpa using h)]
theorem map_snd_zip' {α β : Type} : ∀ {l : List α} {m : List β}, l.length = m.length → (l.zip m).map (·.2) = m
  | [], [], _ => rfl
  | [], _ :: _, h => by simp at h
  | _ :: _, [], h => by simp at h
  | a :: l, b :: m, h => by simp only [List.zip_cons_cons, List.map_cons, map_snd_zip' (l := l) (m := m) (by simpa using h)]

def RetK (K : PV → Mu → Prop) : Fl → St → Prop := fun fl S' => match fl with
  | .ret p => ∃ mu', (∀ b o, mu' b = some o → S'.mu b = some o) ∧ K p mu'
  | .next => False

theorem fn_enter {f : Str} {a : Addr} {o : Obj} {fd : FuncData} {body : List Stmt} {names : List Str} {ps : List PV} {mu : Mu} {K : PV → Mu → Prop}
    (hm : C.mg f = some (.ref a)) (ho : C.h.get? a = some o) (hd : o.data = .func fd) (hcd : C.h.CodeRec fd.code fd.qualname) (hb : fd.body = .stmts body) (hlen : names.length = ps.length)
    (hbind : ∀ vs, vs.length = ps.length → bindArgs fd ⟨vs, []⟩ = pure (names.zip vs)) (hcell : ∀ x ∈ fd.scope.names, x.2 ≠ .cell) (hloc : ∀ x ∈ names, fd.scope.names.lookup x = some .local)
    (hco : fd.scope.isCoroutine = false) (hgen : fd.scope.isGenerator = false) (hk : fd.scope.kind = .function)
    (h : ∀ L, EvS C n (callEnv fd L a) body ⟨(names.zip ps).reverse, mu⟩ (RetK K)) : FnOk C (n + 1) f mu ps K := by
  intro a' hm' A s vs q rb hvs
  rw [hm] at hm'; cases hm'
  refine wpAny_call (codeAny_call_def (by have := q.depth; omega) (rb.base _ _ ho) hd (C.ok.nolimit.keeps rb.base) (hcd.keeps rb.base) hb (binds := names.zip vs) (fun M A E Q h => by rw [hbind vs hvs.length]; exact wpAny_pure h) hcell
    (fun x hx => hloc _ (by have := List.mem_map_of_mem (f := (·.1)) hx; rwa [map_fst_zip' (by rw [hlen, hvs.length])] at this)) (fun h₁ hns hk₁ => ?_) hco hgen hk)
  have g : Grow s { s with heap := h₁, toks := s.toks + (names.zip vs).length } := ⟨hk₁, rfl, rfl⟩
  have hL0 := RB.noBase rb (noLive s.heap)
  have hmL := RB.noSize rb
  have e1 : ((names.zip ps).reverse).map (·.1) = ((names.zip vs).reverse).map (·.1) := by
    rw [List.map_reverse, List.map_reverse, map_fst_zip' hlen, map_fst_zip' (by rw [hlen, hvs.length])]
  have e2 : PvAll h₁ (((names.zip vs).reverse).map (·.2)) (((names.zip ps).reverse).map (·.2)) := by
    rw [List.map_reverse, List.map_reverse, map_snd_zip' hlen, map_snd_zip' (by rw [hlen, hvs.length])]
    exact (hvs.mono g.tup).reverse
  have r : R C (callEnv fd s.heap.objs.size a) h₁ ⟨(names.zip ps).reverse, mu⟩ :=
    ⟨g.rb rb, hmL, hL0, ⟨_, hns, fun x p e _ => lookup_zip e1 e2 e⟩⟩
  refine wpAny_mono (h s.heap.objs.size (A.deeper _) { s with heap := h₁, toks := s.toks + (names.zip vs).length } (q.deeper _) r) ?_ fun _ _ x => x.elim
  rintro fl s' ⟨f', S', hf, r', st', hq⟩
  cases fl <;> cases f' <;> first | exact hf.elim | exact hq.elim | skip
  obtain ⟨mu', hs, hK⟩ := hq
  refine ⟨_, mu', hf, RB.less r'.rb hs, ⟨fun b o e m => ?_, fun b o e m => none_less hs (st'.fresh b o (hk₁ _ _ e) m), st'.gens, st'.os⟩, hK⟩
  exact st'.keep b o (hk₁ _ _ e) m (Nat.ne_of_lt (Heap.lt_size e))
end
end
section
/-! tests -/
section
variable {C : Cx} {n : Nat} {env : Env} {S : St} {Q : Bool → Mu → Prop}
theorem T_val {loc : List (Str × PV)} {mu₀ : Mu} {e : Expr} (h : EvE C n env e ⟨loc, mu₀⟩ (BoolK Q))
    (hw : isTrue e env (eval e env) = (do let v ← eval e env; standAt e.pos; holding [v] (truthy v)) := by rfl) : EvT C n env e ⟨loc, mu₀⟩ Q := by
  intro A s a r
  refine wpAny_isTrue_value (wpAny_mono (h A s a r) ?_ fun _ _ x => x) hw
  rintro v s1 ⟨p, mu1, hv, rb, st, b, rfl, hq⟩
  cases hv
  exact wpAny_truthy_bool ⟨mu1, rb, st, hq⟩
def EvAll (C : Cx) (n : Nat) (env : Env) (op : BoolOp) (es : List Expr) (S : St) (Q : Bool → Mu → Prop) : Prop :=
  ∀ A s, Room n A → R C env s.heap S → wpAny C.M A (allTrue op es env) (PostB C S.mu s Q) No s
theorem T_op {loc : List (Str × PV)} {mu₀ : Mu} {op : BoolOp} {es : List Expr} {pos : Pos} (h : EvAll C n env op es ⟨loc, mu₀⟩ Q) : EvT C n env (.BoolOp op es pos) ⟨loc, mu₀⟩ Q :=
  fun A s a r => wpAny_isTrue_BoolOp (h A s a r)
theorem and_nil {loc : List (Str × PV)} {mu₀ : Mu} (h : Q true mu₀) : EvAll C n env .And [] ⟨loc, mu₀⟩ Q := fun _ s _ r => wpAny_allTrue_And_nil ((Grow.refl s s.toks).postB r.rb h)
theorem or_nil {loc : List (Str × PV)} {mu₀ : Mu} (h : Q false mu₀) : EvAll C n env .Or [] ⟨loc, mu₀⟩ Q := fun _ s _ r => wpAny_allTrue_Or_nil ((Grow.refl s s.toks).postB r.rb h)
abbrev AndK (C : Cx) (n : Nat) (env : Env) (es : List Expr) (loc : List (Str × PV)) (Q : Bool → Mu → Prop) : Bool → Mu → Prop := fun b mu => if b = true then EvAll C n env .And es ⟨loc, mu⟩ Q else Q false mu
abbrev OrK (C : Cx) (n : Nat) (env : Env) (es : List Expr) (loc : List (Str × PV)) (Q : Bool → Mu → Prop) : Bool → Mu → Prop := fun b mu => if b = true then Q true mu else EvAll C n env .Or es ⟨loc, mu⟩ Q
theorem and_cons {loc : List (Str × PV)} {mu₀ : Mu} {e : Expr} {es : List Expr} (h : EvT C n env e ⟨loc, mu₀⟩ (AndK C n env es loc Q)) : EvAll C n env .And (e :: es) ⟨loc, mu₀⟩ Q := by
  intro A s a r
  refine wpAny_allTrue_And_cons (wpAny_mono (h A s a r) ?_ fun _ _ x => x)
  rintro b s1 ⟨mu1, rb, st, h1⟩
  change if _ = true then _ else _ at h1
  split
  · rename_i q; rw [if_pos q] at h1; exact wpAny_mono (h1 A s1 a (r.step rb st)) (fun _ _ x => x.trans st) fun _ _ x => x
  · rename_i q; rw [if_neg q] at h1; exact ⟨mu1, rb, st, h1⟩
theorem or_cons {loc : List (Str × PV)} {mu₀ : Mu} {e : Expr} {es : List Expr} (h : EvT C n env e ⟨loc, mu₀⟩ (OrK C n env es loc Q)) : EvAll C n env .Or (e :: es) ⟨loc, mu₀⟩ Q := by
  intro A s a r
  refine wpAny_allTrue_Or_cons (wpAny_mono (h A s a r) ?_ fun _ _ x => x)
  rintro b s1 ⟨mu1, rb, st, h1⟩
  change if _ = true then _ else _ at h1
  split
  · rename_i q; rw [if_pos q] at h1; exact ⟨mu1, rb, st, h1⟩
  · rename_i q; rw [if_neg q] at h1; exact wpAny_mono (h1 A s1 a (r.step rb st)) (fun _ _ x => x.trans st) fun _ _ x => x
theorem E_neg {loc : List (Str × PV)} {mu₀ : Mu} {e : Expr} {pos : Pos} {Q : PV → Mu → Prop} (h : EvE C n env e ⟨loc, mu₀⟩ fun p mu => ∃ i, p = .dat (.int i) ∧ Q (.dat (.int (-i))) mu) : EvE C n env (.UnaryOp .USub e pos) ⟨loc, mu₀⟩ Q := by
  intro A s a r
  refine wpAny_UnaryOp (wpAny_mono (h A s a r) ?_ fun _ _ x => x)
  rintro v s1 ⟨p, mu1, hv, rb, st, i, rfl, hq⟩
  cases hv
  exact neg_int (Post.trans st ((Grow.refl s1 (s1.toks + 1)).post rb (p := .dat (.int _)) (Rd.int _ _) hq))
end

/-! what a loop goes over -/
def ownedL : List String := ["enumerate", "zip", "dict_itemiterator", "dict_reverseitemiterator", "odict_iterator", "itertools.zip_longest", "itertools.pairwise"]
def OwnNot (h : Heap) (I : Addr) : Prop := ∃ o T vs, h.get? I = some o ∧ o.cls = .type T ∧ o.data = .fields vs ∧ ownedL.contains T = false
theorem owned_go {C : Cx} {A : Around} {s : Shared} {target : Expr} {I : Addr} {v : Value} {Q : Unit → Shared → Prop} (h : OwnNot s.heap I) (hQ : Q () s) : wpAny C.M A (letOwnedTupleGo target (.ref I) v) Q No s := by
  obtain ⟨o, T, vs, ho, hc, hd, hT⟩ := h
  have key : ∀ a : Addr, wpAny C.M A (do let o ← load I; match o.cls, o.data with
      | .type n, .fields vs => if ownedL.contains n && vs[0]? == some (rawInt a) then do rule "for.unpacks-the-owned-tuple"; updateField I 0 .none
      | _, _ => pure ()) Q No s := by
    intro a
    refine wpAny_bind (wpAny_load ho ?_)
    rw [hc, hd]
    show wpAny C.M A (if (ownedL.contains T && vs[0]? == some (rawInt a)) = true then _ else _) Q No s
    rw [hT]
    exact wpAny_pure hQ
  cases target <;> first | exact wpAny_pure hQ | (cases v <;> first | exact wpAny_pure hQ | exact key _)

structure SrcAt (C : Cx) (mu0 mu1 : Mu) (items : List PyData) (s s' : Shared) (it : Value) (I : Addr) (fp wl : List Addr) (P : Nat → Value → Prop) (St : Nat → Heap → Prop) : Prop where
  it : it = .ref I
  walks : ∀ A', A'.handled = none → Walks C.prog C.w A' I fp wl items.length P St
  start : St 0 s'.heap
  fp : ∀ b ∈ fp, mu1 b = none ∧ ∃ o, s'.heap.get? b = some o ∧ (∀ es ep, o.data ≠ .dict es ep)
  wr : ∀ b ∈ wl, (∀ o, s.heap.get? b = some o → mu0 b = none → False) ∧ C.h.get? b = none
  wrt : ∀ i h b, St i h → b ∈ wl → ∃ ob, h.get? b = some ob ∧ ob.cls ≠ .type "tuple"
  own : ∀ i h, St i h → OwnNot h I
  item : ∀ i v, P i v → i < items.length → ∃ d, items[i]? = some d ∧ Rd s'.heap v d

def EvSrc (C : Cx) (n : Nat) (env : Env) (iter : Expr) (S : St) (K : List PyData → Mu → Prop) : Prop :=
  ∀ A s, Room n A → R C env s.heap S → wpAny C.M A (eval iter env) (fun x s1 => wpAny C.M A (pyIter x) (fun it s2 => ∃ items mu1 I fp wr P St, C.RB s2.heap mu1 ∧ Step S.mu mu1 s s2 ∧ SrcAt C S.mu mu1 items s s2 it I fp wr P St ∧ K items mu1) No s1) No s

section
variable {C : Cx} {n : Nat} {env : Env} {S : St}
theorem Src_tup {loc : List (Str × PV)} {mu₀ : Mu} {iter : Expr} {K : List PyData → Mu → Prop} (h : EvE C n env iter ⟨loc, mu₀⟩ fun p mu => ∃ ds, p = .dat (.tuple ds) ∧ K ds mu) : EvSrc C n env iter ⟨loc, mu₀⟩ K := by
  intro A s a r
  refine wpAny_mono (h A s a r) ?_ fun _ _ x => x
  rintro v s1 ⟨p, mu1, hv, rb, st, ds, rfl, hK⟩
  cases hv with
  | tuple ho hc hd hr =>
  rename_i t o vs k
  have e1 : vs.size = ds.length := by rw [← Array.length_toList]; exact hr.length
  have g := Grow.push s1 { cls := .type "tuple_iterator", data := .fields #[.ref t, .int 0 0] } s1.toks
  have hne : t ≠ s1.heap.objs.size := Nat.ne_of_lt (Heap.lt_size ho)
  refine wpAny_pyIter_tuple ⟨o, ho, hc, k, hd⟩ ⟨ds, mu1, s1.heap.objs.size, [s1.heap.objs.size, t], [s1.heap.objs.size], _, _, g.rb rb, st.trans g.step, ⟨rfl, fun A' hA => e1 ▸ Walks.tuple hA s1.heap.objs.size t hne vs, ⟨⟨_, Heap.get?_push_size _ rfl, rfl, rfl⟩, ⟨o, g.keep _ _ ho, hc, k, hd⟩⟩, ?_, ?_, ?_, ?_, ?_⟩, hK⟩
  · intro b hb
    rcases List.mem_cons.mp hb with rfl | hb
    · exact ⟨RB.noSize rb, _, Heap.get?_push_size _ rfl, fun es ep q => by cases q⟩
    · rw [List.mem_singleton.mp hb]
      exact ⟨RB.tup rb ho hc hd, o, g.keep _ _ ho, fun es ep q => by rw [hd] at q; cases q⟩
  · intro b hb
    rw [List.mem_singleton.mp hb]
    exact ⟨fun o q m => (by have := st.keep _ _ q m; rw [noLive] at this; cases this), RB.noBase rb (noLive _)⟩
  · rintro i h b ⟨⟨o', e', c', _⟩, _⟩ hb
    rw [List.mem_singleton.mp hb]
    exact ⟨o', e', by rw [c']; simp⟩
  · rintro i h ⟨⟨o', e', c', d'⟩, _⟩
    exact ⟨o', _, _, e', c', d', rfl⟩
  · intro i v hP _
    obtain ⟨d, e, rd⟩ := hr.get' (by simpa using hP)
    exact ⟨d, e, rd.mono g.tup⟩

def drop (mu : Mu) (a : Addr) : Mu := fun b => if b = a then none else mu b
theorem drop_less (mu : Mu) (a : Addr) : ∀ b o, drop mu a b = some o → mu b = some o := by
  intro b o e
  unfold drop at e
  split at e
  · cases e
  · exact e
/-- a list: while it is gone over, it is not to change -/
theorem Src_list {loc : List (Str × PV)} {mu₀ : Mu} {iter : Expr} {K : List PyData → Mu → Prop} (h : EvE C n env iter ⟨loc, mu₀⟩ fun p mu => ∃ b ds, p = .ref b ∧ mu b = some (.list ds) ∧ K ds (drop mu b)) : EvSrc C n env iter ⟨loc, mu₀⟩ K := by
  intro A s a r
  refine wpAny_mono (h A s a r) ?_ fun _ _ x => x
  rintro v s1 ⟨p, mu1, hv, rb, st, t, ds, rfl, hb, hK⟩
  cases hv
  obtain ⟨vs, ⟨k, ho⟩, hr⟩ := (rb.ok _ _ hb).1
  have e1 : vs.size = ds.length := by rw [← Array.length_toList]; exact hr.length
  have g := Grow.push s1 { cls := .type "list_iterator", data := .fields #[.ref t, .int 0 0] } s1.toks
  have hne : t ≠ s1.heap.objs.size := Nat.ne_of_lt (Heap.lt_size ho)
  have rb' := RB.less rb (drop_less mu1 t)
  have st' := Step.less st (drop_less mu1 t)
  refine wpAny_pyIter_list ⟨_, ho, rfl, k, rfl⟩ ⟨ds, drop mu1 t, s1.heap.objs.size, [s1.heap.objs.size, t], [s1.heap.objs.size], _, _, g.rb rb', st'.trans g.step, ⟨rfl, fun A' hA => e1 ▸ Walks.list hA s1.heap.objs.size t hne vs, ⟨⟨_, Heap.get?_push_size _ rfl, rfl, rfl⟩, ⟨_, g.keep _ _ ho, rfl, k, rfl⟩⟩, ?_, ?_, ?_, ?_, ?_⟩, hK⟩
  · intro b hb
    rcases List.mem_cons.mp hb with rfl | hb
    · exact ⟨RB.noSize rb', _, Heap.get?_push_size _ rfl, fun es ep q => by cases q⟩
    · rw [List.mem_singleton.mp hb]
      exact ⟨by simp [drop], _, g.keep _ _ ho, fun es ep q => by cases q⟩
  · intro b hb
    rw [List.mem_singleton.mp hb]
    exact ⟨fun o q m => (by have := st.keep _ _ q m; rw [noLive] at this; cases this), RB.noBase rb (noLive _)⟩
  · rintro i h b ⟨⟨o', e', c', _⟩, _⟩ hb
    rw [List.mem_singleton.mp hb]
    exact ⟨o', e', by rw [c']; simp⟩
  · rintro i h ⟨⟨o', e', c', d'⟩, _⟩
    exact ⟨o', _, _, e', c', d', rfl⟩
  · intro i v hP _
    obtain ⟨d, e, rd⟩ := hr.get' (by simpa using hP)
    exact ⟨d, e, rd.mono g.tup⟩

theorem Src_range {loc : List (Str × PV)} {mu₀ : Mu} {np pos : Pos} {e : Expr} {K : List PyData → Mu → Prop} (hm : C.mg "range" = none) (h : EvE C n env e ⟨loc, mu₀⟩ fun p mu => ∃ i : Nat, p = .dat (.int i) ∧ i < 1000 ∧ K ((List.range i).map fun (k : Nat) => .int k) mu)
    (hg : env.globals = mainGlobals := by rfl) (hbl : env.builtins = builtinsNs := by rfl) (hx : env.kindOf "range" = some .globalImplicit := by rfl) (hk : env.scope.kind = .function := by rfl)
    (he : backTo pos (starEach [e] env) = (false, eval e env) :: backTo pos (starEach [] env) := by rfl) (hany : (backTo pos (starEach [] env)).any (·.1) = false := by rfl) : EvSrc C n env (.Call (.Name "range" np) [e] [] pos) ⟨loc, mu₀⟩ K := by
  intro A s a r
  refine wpAny_Call_ofName (wp_blt r.rb hm boot_range (by decide) ?_ hg hbl hx hk (by decide))
  refine callWith_x (Hp := fun _ => True) (fun h _ => keep_blt rfl h) ?_ he hany
  rw [he]
  refine Calls.spliced_cons (wpAny_mono (h A s a r) ?_ fun _ _ x => x)
  rintro v s1 ⟨p, mu1, hv, rb, st, i, rfl, hi, hK⟩
  refine Calls.spliced_nil ⟨trivial, ?_⟩
  cases hv
  rename_i t
  refine call_range_1 ?_
  have g := Grow.push s1 { cls := .type "range", data := .fields #[.int 0 s1.toks, .int i t, .int 1 (s1.toks + 1)] } (s1.toks + 1 + 1)
  refine wpAny_pyIter_range (IsRange.new s1.heap 0 i 1 s1.toks t (s1.toks + 1)) (small_one (by omega) (by omega) (by omega) (by omega)) ?_
  have hsz : Builtin.Range.rangeSize 0 (i : Int) 1 = i := by rw [rangeSize_one]; split <;> omega
  rw [hsz]
  have rb1 := g.rb rb
  generalize hs2 : ({ s1 with heap := s1.heap.push { cls := .type "range", data := .fields #[.int 0 s1.toks, .int i t, .int 1 (s1.toks + 1)] }, toks := s1.toks + 1 + 1 } : Shared) = s2 at g rb1
  have eh : s1.heap.push { cls := .type "range", data := .fields #[.int 0 s1.toks, .int i t, .int 1 (s1.toks + 1)] } = s2.heap := by rw [← hs2]
  have g2 := Grow.push s2 { cls := .type "range_iterator", data := .fields #[rawInt 0, rawInt i, rawInt 1] } s2.toks
  have fin : C.RB (s2.heap.push { cls := .type "range_iterator", data := .fields #[rawInt 0, rawInt i, rawInt 1] }) mu1 ∧ Step mu₀ mu1 s { s2 with heap := s2.heap.push { cls := .type "range_iterator", data := .fields #[rawInt 0, rawInt i, rawInt 1] } } ∧
      SrcAt C mu₀ mu1 ((List.range i).map fun (k : Nat) => .int k) s { s2 with heap := s2.heap.push { cls := .type "range_iterator", data := .fields #[rawInt 0, rawInt i, rawInt 1] } } (.ref s2.heap.objs.size) s2.heap.objs.size [s2.heap.objs.size] [s2.heap.objs.size]
        (fun j v => ∃ t, v = .int (0 + j * 1) t) (fun j h => IsRangeIter h s2.heap.objs.size (0 + (j : Nat) * 1) ((i : Int) - (j : Nat)) 1) := by
    refine ⟨g2.rb rb1, (st.trans g.step).trans g2.step, ⟨rfl, fun A' hA => ?_, ?_, ?_, ?_, ?_, ?_, ?_⟩⟩
    · rw [List.length_map, List.length_range]; exact Walks.range hA _ 0 1 i
    · show Heap.get? _ _ = _
      rw [show ((0 : Int) + ((0 : Nat) : Int) * 1) = 0 from rfl, show ((i : Int) - ((0 : Nat) : Int)) = i from by omega]
      exact Heap.get?_push_size _ rfl
    · intro b hb
      rw [List.mem_singleton.mp hb]
      exact ⟨RB.noSize rb1, _, Heap.get?_push_size _ rfl, fun es ep q => by cases q⟩
    · intro b hb
      rw [List.mem_singleton.mp hb]
      exact ⟨fun o q m => (by have := g.keep _ _ (st.keep _ _ q m); rw [noLive] at this; cases this), RB.noBase rb1 (noLive _)⟩
    · intro j h b e' hb
      rw [List.mem_singleton.mp hb]
      exact ⟨_, e', by simp⟩
    · intro j h e'
      exact ⟨_, _, _, e', rfl, rfl, rfl⟩
    · rintro j v ⟨t, rfl⟩ hj
      rw [List.length_map, List.length_range] at hj
      refine ⟨.int j, by simp [hj], ?_⟩
      rw [show ((0 : Int) + (j : Int) * 1) = j from by omega]
      exact Rd.int _ _
  subst hs2
  obtain ⟨f1, f2, f3⟩ := fin
  exact ⟨_, mu1, _, _, _, _, _, f1, f2, f3, hK⟩
end
end
section
section
variable {C : Cx} {n : Nat} {env : Env} {S : St}

theorem wpAny_no {α : Type} {M : Model} {A : Around} {t : Sem α} {Q : α → Shared → Prop} {E : Value → Shared → Prop} {s : Shared} (h : wpAny M A t Q No s) : wpAny M A t Q E s := wpAny_mono h (fun _ _ x => x) fun _ _ x => x.elim

/-- the state between two turns -/
structure Turn (C : Cx) (env : Env) (s2 s' : Shared) (mu1 : Mu) (wl : List Addr) (S : St) : Prop where
  r : R C env s'.heap S
  keep : ∀ a o, s2.heap.get? a = some o → mu1 a = none → a ≠ env.locals → a ∉ wl → s'.heap.get? a = some o
  fresh : ∀ a o, s2.heap.get? a = some o → mu1 a = none → S.mu a = none
  live : ∀ a o, s2.heap.get? a = some o → mu1 a = none → a ∉ wl → ∃ o', s'.heap.get? a = some o'
  tk : TupKeep s2.heap s'.heap
  gens : s'.gens = s2.gens
  os : s'.os = s2.os

theorem S_for {loc : List (Str × PV)} {mu₀ : Mu} {x : Str} {xp pos : Pos} {iter : Expr} {body : List Stmt} {Q : Fl → St → Prop} (Inv : List PyData → Nat → St → Prop)
    (hsrc : EvSrc C n env iter ⟨loc, mu₀⟩ fun items mu1 => Inv items 0 ⟨loc, mu1⟩ ∧
      (∀ i d S', items[i]? = some d → Inv items i S' → EvS C n env body ⟨(x, .dat d) :: S'.loc, S'.mu⟩ fun fl S'' => match fl with | .next => ∃ S3, Sub S3 S'' ∧ Inv items (i + 1) S3 | .ret p => Q (.ret p) S'') ∧
      ∀ S', Inv items items.length S' → Q .next S')
    (hx : env.kindOf x = some .local := by rfl) (hk : env.scope.kind = .function := by rfl) (hf : ∀ v, foldedSetIterable iter env v = pure v := by intro _; rfl) : EvS1 C n env (.For (.Name x xp) iter body [] pos) ⟨loc, mu₀⟩ Q := by
  intro A s a r
  refine wpAny_For (wpAny_mono (hsrc A s a r) ?_ fun _ _ x => x) hf
  intro v s1 h1
  refine wpAny_mono h1 ?_ fun _ _ x => x
  rintro it s2 ⟨items, mu1, I, fp, wl, P, Sx, rb, st, ⟨rfl, hW, hst, hfp, hwr, hwrt, hown, hitem⟩, hI0, hturn, hdone⟩
  have r2 : R C env s2.heap ⟨loc, mu1⟩ := r.step rb st
  have W := hW A a.handled
  have hLf : env.locals ∉ fp := fun hb => by
    obtain ⟨m, ⟨o, es, ep, ho, hd, _⟩, _⟩ := r2.ns
    obtain ⟨_, o', ho', hd'⟩ := hfp _ hb
    rw [ho] at ho'; cases ho'
    exact hd' _ _ hd
  refine codeAny_forLoop (fun k s' => ∃ i S', i ≤ items.length ∧ k = items.length + 1 - i ∧ Turn C env s2 s' mu1 wl S' ∧ Sx i s'.heap ∧ Inv items i S') ?_ (items.length + 1)
    ⟨0, ⟨loc, mu1⟩, Nat.zero_le _, rfl, ⟨r2, fun _ _ e _ _ _ => e, fun _ _ _ e => e, fun _ o e _ _ => ⟨o, e⟩, TupKeep.refl _, rfl, rfl⟩, hst, hI0⟩
  rintro k s' ⟨i, S', hi, rfl, T, hsti, hI⟩
  have hfpm : ∀ b ∈ fp, S'.mu b = none := fun b hb => let ⟨q1, o, q2, _⟩ := hfp b hb; T.fresh b o q2 q1
  have hbut : ∀ h₁ : Heap, (∀ b o, b ∉ wl → s'.heap.get? b = some o → h₁.get? b = some o) → R C env h₁ S' ∧ TupKeep s'.heap h₁ := fun h₁ hk₁ =>
    T.r.but (X := fun b => b ∈ wl) (fun b o e q => hk₁ b o q e) fun b hb => ⟨hfpm b (W.sub _ hb), fun q => hLf (q ▸ W.sub _ hb), (hwr b hb).2, fun ob e => by
      obtain ⟨ob', e', c'⟩ := hwrt i _ b hsti hb
      rw [e] at e'; cases e'; exact .inl c'⟩
  have hT₁ : ∀ (h₁ : Heap) (tk₁ : Nat), (∀ b o, b ∉ wl → s'.heap.get? b = some o → h₁.get? b = some o) → Turn C env s2 { s' with heap := h₁, toks := tk₁ } mu1 wl S' := fun h₁ tk₁ hk₁ =>
    ⟨(hbut h₁ hk₁).1, fun a o e m q1 q2 => hk₁ a o q2 (T.keep a o e m q1 q2), T.fresh, fun a o e m q => by obtain ⟨o', e'⟩ := T.live a o e m q; exact ⟨o', hk₁ a o' q e'⟩, T.tk.trans (hbut h₁ hk₁).2, T.gens, T.os⟩
  have hfin : ∀ (f : Flow) (fl : Fl) (S'' : St) (s'' : Shared), FlIs s''.heap f fl → Turn C env s2 s'' mu1 wl S'' → Q fl S'' → PostS C env mu₀ s Q f s'' := fun f fl S'' s'' hf T'' hq =>
    ⟨fl, S'', hf, T''.r, ⟨fun a o e m q => T''.keep a o (st.keep a o e m) (st.fresh a o e m) q fun hb => (hwr a hb).1 o e m, fun a o e m => T''.fresh a o (st.keep a o e m) (st.fresh a o e m),
      fun a o e m => T''.live a o (st.keep a o e m) (st.fresh a o e m) fun hb => (hwr a hb).1 o e m, T''.gens.trans st.gens, T''.os.trans st.os⟩, hq⟩
  by_cases hlt : i < items.length
  · refine W.item i _ _ _ hlt hsti fun v' h₁ tk₁ hP hst₁ hk₁ => ?_
    obtain ⟨r₁, tk1⟩ := hbut h₁ hk₁
    obtain ⟨d, hd, rd⟩ := hitem i v' hP hlt
    have rd₁ : Pv h₁ v' (.dat d) := Rd.mono tk1 (Rd.mono T.tk rd)
    have T₁ := hT₁ h₁ tk₁ hk₁
    have hlive₁ : ∀ a o, s2.heap.get? a = some o → mu1 a = none → ∃ o', h₁.get? a = some o' := fun a o e m => by
      by_cases hb : a ∈ wl
      · obtain ⟨ob, e', _⟩ := hwrt _ _ a hst₁ hb; exact ⟨ob, e'⟩
      · exact T₁.live a o e m hb
    refine wpAny_assign_Name (wpAny_no (wp_store (p := .dat d) r₁ rd₁ (StepL.refl S'.mu _) (fun s₂ r₂ st₂ tk2 sb₂ => ?_) hx hk))
    have hst₂ : Sx (i + 1) s₂.heap := W.frame _ _ _ hst₁ fun b hb o e => (sb₂.2 b fun q => hLf (q ▸ hb)).trans e
    refine wpAny_no (wpAny_mono (hturn i d S' hd hI A s₂ a r₂) ?_ fun _ _ x => x)
    rintro f s₃ ⟨fl, S'', hf, r₃, st₃, hq⟩
    have hlive₂ : ∀ a o, s2.heap.get? a = some o → mu1 a = none → ∃ o', s₂.heap.get? a = some o' := fun a o e m => by
      obtain ⟨o', e'⟩ := hlive₁ a o e m; exact st₂.live a o' e' (T.fresh a o e m)
    have T₃ : Turn C env s2 s₃ mu1 wl S'' :=
      ⟨r₃, fun a o e m q1 q2 => st₃.keep a o (st₂.keep a o (T₁.keep a o e m q1 q2) (T.fresh a o e m) q1) (T.fresh a o e m) q1,
        fun a o e m => by obtain ⟨o2, e2⟩ := hlive₂ a o e m; exact st₃.fresh a o2 e2 (T.fresh a o e m),
        fun a o e m _ => by obtain ⟨o2, e2⟩ := hlive₂ a o e m; exact st₃.live a o2 e2 (T.fresh a o e m),
        (T₁.tk.trans tk2).trans (st₃.tup r₂), st₃.gens.trans (st₂.gens.trans T₁.gens), st₃.os.trans (st₂.os.trans T₁.os)⟩
    cases f <;> cases fl <;> first | exact hf.elim | skip
    · obtain ⟨S3, hsub, hI'⟩ := hq
      refine ⟨items.length + 1 - (i + 1), by omega, i + 1, S3, hlt, rfl, ⟨T₃.r.less hsub, T₃.keep, fun a o e m => none_less hsub.mu (T₃.fresh a o e m), T₃.live, T₃.tk, T₃.gens, T₃.os⟩, ?_, hI'⟩
      refine W.frame _ _ _ hst₂ fun b hb o e => ?_
      obtain ⟨q1, o', q2, _⟩ := hfp b hb
      exact st₃.keep b o e (T.fresh b o' q2 q1) fun q => hLf (q ▸ hb)
    · exact hfin _ (.ret _) S'' s₃ hf T₃ hq
  · have hin : i = items.length := by omega
    subst hin
    refine W.done _ _ _ hsti fun h₁ tk₁ hk₁ => wpAny_execs_nil ?_
    exact hfin .next .next S' _ trivial (hT₁ h₁ tk₁ hk₁) (hdone S' hI)

theorem S_while {loc : List (Str × PV)} {mu₀ : Mu} {test : Expr} {body : List Stmt} {pos : Pos} {Q : Fl → St → Prop} (Inv : Nat → St → Prop) (k : Nat) (h0 : Inv k ⟨loc, mu₀⟩)
    (hturn : ∀ k S', Inv k S' → EvT C n env test S' fun b mu => if b = true then EvS C n env body ⟨S'.loc, mu⟩ (fun fl S'' => match fl with | .next => ∃ m S3, m < k ∧ Sub S3 S'' ∧ Inv m S3 | .ret p => Q (.ret p) S'') else Q .next ⟨S'.loc, mu⟩) :
    EvS1 C n env (.While test body [] pos) ⟨loc, mu₀⟩ Q := by
  intro A s a r
  refine wpAny_While ?_
  refine codeAny_whileLoop (fun k s' => ∃ S', R C env s'.heap S' ∧ StepL env mu₀ S'.mu s s' ∧ Inv k S') ?_ k ⟨⟨loc, mu₀⟩, r, StepL.refl _ _, h0⟩
  rintro k s' ⟨S', r', st', hI⟩
  refine wpAny_no (wpAny_mono (hturn k S' hI A s' a r') ?_ fun _ _ x => x)
  rintro b s1 ⟨mu1, rb, st, h1⟩
  split
  · rename_i e
    rw [if_pos e] at h1
    refine wpAny_no (wpAny_mono (h1 A s1 a (r'.step rb st)) ?_ fun _ _ x => x)
    rintro f s2 ⟨fl, S'', hf, r2, st2, hq⟩
    cases f <;> cases fl <;> first | exact hf.elim | skip
    · obtain ⟨m, S3, hm, hs, hI'⟩ := hq
      exact ⟨m, hm, S3, r2.less hs, ((st'.trans st.toL).trans st2).less hs.mu, hI'⟩
    · exact ⟨.ret _, S'', hf, r2, (st'.trans st.toL).trans st2, hq⟩
  · rename_i e
    rw [if_neg e] at h1
    exact wpAny_execs_nil ⟨.next, ⟨S'.loc, mu1⟩, trivial, r'.step rb st, st'.trans st.toL, h1⟩
end
end
section
theorem compLoop_any {prog : Program} {w : World} {A : Around} {R : Result → Shared → Prop} {s : Shared} {elt target iter : Expr} {ifs : List Expr} {scope : Scope} {pos : Pos} {it acc : Value} {env : Env} (I : Nat → Shared → Prop)
    (turn : ∀ n s, I n s → wpAny (model prog w) A (pyNext it) (fun r s₁ => match r with
      | none => R (.ok .next) s₁
      | some v => wpAny (model prog w) A (letOwnedTupleGo target it v) (fun _ s₁' => wpAny (model prog w) A (assign target env v) (fun _ s₂ =>
          wpAny (model prog w) A (forIn ifs true fun c r => if r = true then do let ok ← isTrue c env (eval c env); pure (ForInStep.yield ok) else pure (ForInStep.yield r)) (fun ok s₃ =>
            if ok = true then wpAny (model prog w) A (eval elt env) (fun x s₄ =>
              wpAny (model prog w) A (call (.builtin "list.append") [acc, x]) (fun _ s₅ => ∃ m, m < n ∧ I m s₅) No s₄) No s₃
            else ∃ m, m < n ∧ I m s₃) No s₂) No s₁') No s₁) No s)
    (n : Nat) (h : I n s) :
    codeAny (model prog w) A (.compLoop (.ListComp elt [⟨target, iter, ifs, 0⟩] scope pos) 0 it acc env) R s := by
  refine codeAny_loop rfl I (fun n s hI => ?_) n h
  show wpAny _ A ((compTurn (.ListComp elt [⟨target, iter, ifs, 0⟩] scope pos) 0 it acc env).onRaise (fun x => do noteFrame x env; theTreesLotGoes x)) _ _ s
  refine wpAny_noted (wpAny_no ?_)
  rw [compTurn_list]
  refine wpAny_bind (wpAny_standAt (wpAny_bind (wpAny_mono (turn n s hI) (fun r s₁ h₁ => ?_) fun _ _ h' => h')))
  cases r with
  | none => exact wpAny_pure h₁
  | some v =>
    refine wpAny_bind (wpAny_mono h₁ (fun _ s₁' h₁' => ?_) fun _ _ h' => h')
    refine wpAny_bind (wpAny_mono h₁' (fun _ s₂ h₂ => wpAny_bind (wpAny_mono h₂ (fun ok s₃ h₃ => ?_) fun _ _ h' => h')) fun _ _ h' => h')
    cases ok with
    | false => exact wpAny_pure ⟨rfl, h₃⟩
    | true =>
      exact wpAny_bind (wpAny_bind (wpAny_mono h₃ (fun x s₄ h₄ => wpAny_bind (wpAny_mono h₄ (fun _ s₅ h₅ => wpAny_pure (wpAny_pure ⟨rfl, h₅⟩)) fun _ _ h' => h')) fun _ _ h' => h'))

abbrev cenvOf (scope : Scope) (L : Addr) (env : Env) (cl : List (Str × Addr)) : Env :=
  { scope := relabel scope env, locals := L, globals := env.globals, cells := cl, qual := env.qual, code := env.code, frame := env.frame, builtins := env.builtins }

def CompBody (C : Cx) (n : Nat) (env : Env) (elt : Expr) (S : St) (acc : List PyData) (Next : List PyData → Mu → Prop) : List Expr → Prop
  | [] => EvE C n env elt S fun p mu => ∃ d, p = .dat d ∧ Next (acc ++ [d]) mu
  | [c] => EvT C n env c S fun b mu => if b = true then EvE C n env elt ⟨S.loc, mu⟩ (fun p mu => ∃ d, p = .dat d ∧ Next (acc ++ [d]) mu) else Next acc mu
  | _ => False
def EvAs (C : Cx) (n : Nat) (env : Env) (t : Expr) (p : PV) (S : St) (Q : St → Prop) : Prop :=
  ∀ A s v, Room n A → R C env s.heap S → Pv s.heap v p → wpAny C.M A (assign t env v) (fun _ s' => ∃ S', R C env s'.heap S' ∧ StepL env S.mu S'.mu s s' ∧ Q S') No s
theorem As_name {loc : List (Str × PV)} {mu₀ : Mu} {C : Cx} {n : Nat} {env : Env} {x : Str} {xp : Pos} {p : PV} {Q : St → Prop} (h : Q ⟨(x, p) :: loc, mu₀⟩) (hx : env.kindOf x = some .local := by rfl) (hk : env.scope.kind = .function := by rfl) : EvAs C n env (.Name x xp) p ⟨loc, mu₀⟩ Q :=
  fun _ s _ _ r hv => wpAny_assign_Name (wp_store r hv (StepL.refl _ s) (fun _ r' st' _ _ => ⟨_, r', st', h⟩) hx hk)
theorem As_tup {loc : List (Str × PV)} {mu₀ : Mu} {C : Cx} {n : Nat} {env : Env} {elts : List Expr} {k : Nat} {tp : Pos} {ds : List PyData} {Q : St → Prop} (hl : (assignEach elts env).length = ds.length) (h : EvA C n env ((assignEach elts env).map (·.2)) (ds.map .dat) ⟨loc, mu₀⟩ Q)
    (hst : (assignEach elts env).findIdx? (·.1) = none := by rfl) : EvAs C n env (.Tuple elts k tp) (.dat (.tuple ds)) ⟨loc, mu₀⟩ Q := by
  intro A s v a r hv
  cases hv with
  | tuple ho hc hd hr =>
  rename_i t o vs k
  have e1 : vs.size = ds.length := by rw [← Array.length_toList]; exact hr.length
  refine wpAny_assign_Tuple a.handled ⟨o, ho, hc, k, hd⟩ (by rw [hl, e1]) hst fun h' ext => ?_
  have g := grow_ext ext
  refine wpAny_mono (h A { s with heap := h' } vs.toList a (r.step (s' := { s with heap := h' }) (g.rb r.rb) g.step) (hr.mono g.tup).pv) ?_ fun _ _ x => x
  rintro _ s3 ⟨S', r3, st3, h3⟩
  exact ⟨S', r3, g.step.toL.trans st3, h3⟩
def CompTurn (C : Cx) (n : Nat) (env : Env) (target elt : Expr) (ifs : List Expr) (d : PyData) (acc : List PyData) (mu : Mu) (Next : List PyData → Mu → Prop) : Prop :=
  EvAs C n env target (.dat d) ⟨[], mu⟩ fun S1 => CompBody C n env elt S1 acc Next ifs

structure CompEnd (C : Cx) (s2 s' : Shared) (mu1 mu' : Mu) (wl : List Addr) (D L : Addr) (acc : List PyData) : Prop where
  rb : C.RB s'.heap mu'
  keep : ∀ a o, s2.heap.get? a = some o → mu1 a = none → a ∉ wl → s'.heap.get? a = some o
  fresh : ∀ a o, s2.heap.get? a = some o → mu1 a = none → mu' a = none
  data : ∃ vs, s'.heap.PlainList D vs ∧ RdAll s'.heap vs.toList acc
  d0 : mu' D = none ∧ s2.heap.get? D = none ∧ C.h.get? D = none
  l0 : mu' L = none ∧ s2.heap.get? L = none ∧ C.h.get? L = none ∧ L ≠ D ∧ ∃ m, s'.heap.Ns L m
  tk : TupKeep s2.heap s'.heap
  gens : s'.gens = s2.gens
  os : s'.os = s2.os

section
variable {C : Cx} {n : Nat} {env : Env} {S : St}

theorem comp_loop {A : Around} {s s2 s4 : Shared} {mu1 : Mu} {items : List PyData} {I D L : Addr} {fp wl : List Addr} {P : Nat → Value → Prop} {Sx : Nat → Heap → Prop}
    {elt target iter : Expr} {ifs : List Expr} {scope : Scope} {pos : Pos} {cl : List (Str × Addr)} {RR : Result → Shared → Prop} (Inv : Nat → List PyData → Mu → Prop)
    (a : Room n A) (src : SrcAt C S.mu mu1 items s s2 (.ref I) I fp wl P Sx) (hsz : items.length ≤ sizeLine)
    (hI0 : Inv 0 [] mu1) (hacc : ∀ i acc mu, Inv i acc mu → acc.length ≤ i)
    (hturn : ∀ i d acc mu', items[i]? = some d → Inv i acc mu' → CompTurn C n (cenvOf scope L env cl) target elt ifs d acc mu' fun acc' mu'' => Inv (i + 1) acc' mu'')
    (g : Grow s2 s4) (r4 : R C (cenvOf scope L env cl) s4.heap ⟨[], mu1⟩) (hD : s4.heap.PlainList D #[]) (hd0 : mu1 D = none ∧ s2.heap.get? D = none ∧ C.h.get? D = none) (hl0 : s2.heap.get? L = none) (hLD : L ≠ D)
    (hR : ∀ s' acc mu', Inv items.length acc mu' → CompEnd C s2 s' mu1 mu' wl D L acc → RR (.ok .next) s') :
    codeAny C.M A (.compStart (.ListComp elt [⟨target, iter, ifs, 0⟩] scope pos) 0 (.ref I) (.ref D) (cenvOf scope L env cl)) RR s4 := by
  obtain ⟨-, hW, hst, hfp, hwr, hwrt, hown, hitem⟩ := src
  have W := hW A a.handled
  have hL : ∀ b ∈ fp, b ≠ L := fun b hb q => by obtain ⟨_, o, e, _⟩ := hfp b hb; rw [q, hl0] at e; cases e
  have hDf : ∀ b ∈ fp, b ≠ D := fun b hb q => by obtain ⟨_, o, e, _⟩ := hfp b hb; rw [q, hd0.2.1] at e; cases e
  have hst4 : Sx 0 s4.heap := W.frame _ _ _ hst fun b _ o e => g.keep b o e
  have main : codeAny C.M A (.compLoop (.ListComp elt [⟨target, iter, ifs, 0⟩] scope pos) 0 (.ref I) (.ref D) (cenvOf scope L env cl)) RR s4 := by
    refine compLoop_any (fun k s' => ∃ i acc mu', i ≤ items.length ∧ k = items.length + 1 - i ∧ R C (cenvOf scope L env cl) s'.heap ⟨[], mu'⟩ ∧ CompEnd C s2 s' mu1 mu' wl D L acc ∧ Sx i s'.heap ∧ Inv i acc mu') ?_ (items.length + 1)
      ⟨0, [], mu1, Nat.zero_le _, rfl, r4, ⟨r4.rb, fun b o e _ _ => g.keep b o e, fun _ _ _ e => e, ⟨#[], hD, .nil⟩, hd0, ⟨r4.own, hl0, r4.above, hLD, let ⟨m, q, _⟩ := r4.ns; ⟨m, q⟩⟩, g.tup, g.gens, g.os⟩, hst4, hI0⟩
    rintro k s' ⟨i, acc, mu', hi, rfl, r', ce, hsti, hI⟩
    have hfpm : ∀ b ∈ fp, mu' b = none := fun b hb => let ⟨q1, o, q2, _⟩ := hfp b hb; ce.fresh b o q2 q1
    have hDw : D ∉ wl := fun hb => hDf _ (W.sub _ hb) rfl
    -- what pyNext does
    have hbut : ∀ (h₁ : Heap) (tk₁ : Nat), (∀ b o, b ∉ wl → s'.heap.get? b = some o → h₁.get? b = some o) → R C (cenvOf scope L env cl) h₁ ⟨[], mu'⟩ ∧ TupKeep s'.heap h₁ ∧ CompEnd C s2 { s' with heap := h₁, toks := tk₁ } mu1 mu' wl D L acc := fun h₁ tk₁ hk₁ => by
      obtain ⟨r₁, tk1⟩ := r'.but (X := fun b => b ∈ wl) (fun b o e q => hk₁ b o q e) fun b hb => ⟨hfpm b (W.sub _ hb), hL b (W.sub _ hb), (hwr b hb).2, fun ob e => by
        obtain ⟨ob', e', c'⟩ := hwrt i _ b hsti hb
        rw [e] at e'; cases e'; exact .inl c'⟩
      refine ⟨r₁, tk1, ⟨r₁.rb, fun b o e m q => hk₁ b o q (ce.keep b o e m q), ce.fresh, ?_, ce.d0, ?_, ce.tk.trans tk1, ce.gens, ce.os⟩⟩
      · obtain ⟨vs, ⟨k, e⟩, rd⟩ := ce.data
        exact ⟨vs, ⟨k, hk₁ _ _ hDw e⟩, rd.mono tk1⟩
      · obtain ⟨q1, q2, q3, q4, _⟩ := ce.l0
        exact ⟨q1, q2, q3, q4, let ⟨m, q, _⟩ := r₁.ns; ⟨m, q⟩⟩
    by_cases hlt : i < items.length
    · refine W.item i _ _ _ hlt hsti fun v' h₁ tk₁ hP hst₁ hk₁ => ?_
      obtain ⟨r₁, tk1, ce₁⟩ := hbut h₁ tk₁ hk₁
      obtain ⟨d, hd, rd⟩ := hitem i v' hP hlt
      have rd₁ : Rd h₁ v' d := Rd.mono tk1 (Rd.mono ce.tk rd)
      have hlive₁ : ∀ a o, s2.heap.get? a = some o → mu1 a = none → ∃ o', h₁.get? a = some o' := fun a o e m => by
        by_cases hb : a ∈ wl
        · obtain ⟨ob, e', _⟩ := hwrt _ _ a hst₁ hb; exact ⟨ob, e'⟩
        · exact ⟨o, hk₁ a o hb (ce.keep a o e m hb)⟩
      refine owned_go (hown _ _ hst₁) ?_
      refine wpAny_mono (hturn i d acc mu' hd hI A { s' with heap := h₁, toks := tk₁ } v' a r₁ rd₁) ?_ fun _ _ x => x
      rintro _ s₂ ⟨S1, r₂, st₂, hb₂⟩
      have tk2 : TupKeep h₁ s₂.heap := st₂.tup r₁
      have hlive₂ : ∀ a o, s2.heap.get? a = some o → mu1 a = none → ∃ o', s₂.heap.get? a = some o' := fun a o e m => by
        obtain ⟨o', e'⟩ := hlive₁ a o e m; exact st₂.live a o' e' (ce.fresh a o e m)
      have hne2 : ∀ a o, s2.heap.get? a = some o → a ≠ L := fun a o e q => by rw [q, hl0] at e; cases e
      have hDlive : ∃ o, h₁.get? D = some o := by obtain ⟨vs, ⟨k, e⟩, _⟩ := ce₁.data; exact ⟨_, e⟩
      have ce₂ : CompEnd C s2 s₂ mu1 S1.mu wl D L acc := by
        refine ⟨r₂.rb, fun b o e m q => st₂.keep b o (ce₁.keep b o e m q) (ce.fresh b o e m) (hne2 b o e), fun b o e m => ?_, ?_, ?_, ?_, ce₁.tk.trans tk2, st₂.gens.trans ce₁.gens, st₂.os.trans ce₁.os⟩
        · obtain ⟨o', e'⟩ := hlive₁ b o e m; exact st₂.fresh b o' e' (ce.fresh b o e m)
        · obtain ⟨vs, ⟨k, e⟩, rd⟩ := ce₁.data
          exact ⟨vs, ⟨k, st₂.keep _ _ e ce.d0.1 (Ne.symm hLD)⟩, rd.mono tk2⟩
        · obtain ⟨o, e⟩ := hDlive; exact ⟨st₂.fresh D o e ce.d0.1, ce.d0.2⟩
        · exact ⟨r₂.own, hl0, r₂.above, hLD, let ⟨m, q, _⟩ := r₂.ns; ⟨m, q⟩⟩
      have hst₂ : Sx (i + 1) s₂.heap := W.frame _ _ _ hst₁ fun b hb o e => st₂.keep b o e (hfpm b hb) (hL b hb)
      -- a step in the element or the test
      have hstep : ∀ (s₃ : Shared) (mu₂ mu₃ : Mu) (s₂ : Shared), CompEnd C s2 s₂ mu1 mu₂ wl D L acc → R C (cenvOf scope L env cl) s₂.heap ⟨S1.loc, mu₂⟩ → Sx (i + 1) s₂.heap → C.RB s₃.heap mu₃ → Step mu₂ mu₃ s₂ s₃ →
          CompEnd C s2 s₃ mu1 mu₃ wl D L acc ∧ R C (cenvOf scope L env cl) s₃.heap ⟨S1.loc, mu₃⟩ ∧ Sx (i + 1) s₃.heap := by
        intro s₃ mu₂ mu₃ s₂ ce₂ r₂ hst₂ rb₃ st₃
        have r₃ : R C (cenvOf scope L env cl) s₃.heap ⟨S1.loc, mu₃⟩ := r₂.step rb₃ st₃
        have tk3 := st₃.tup r₂.rb
        have hlive : ∀ a o, s2.heap.get? a = some o → mu1 a = none → ∃ o', s₂.heap.get? a = some o' := fun a o e m => by
          by_cases hb : a ∈ wl
          · obtain ⟨ob, e', _⟩ := hwrt _ _ a hst₂ hb; exact ⟨ob, e'⟩
          · exact ⟨o, ce₂.keep a o e m hb⟩
        refine ⟨⟨rb₃, fun b o e m q => st₃.keep b o (ce₂.keep b o e m q) (ce₂.fresh b o e m), fun b o e m => ?_, ?_, ?_, ?_, ce₂.tk.trans tk3, st₃.gens.trans ce₂.gens, st₃.os.trans ce₂.os⟩, r₃, ?_⟩
        · obtain ⟨o', e'⟩ := hlive b o e m; exact st₃.fresh b o' e' (ce₂.fresh b o e m)
        · obtain ⟨vs, ⟨k, e⟩, rd⟩ := ce₂.data
          exact ⟨vs, ⟨k, st₃.keep _ _ e ce₂.d0.1⟩, rd.mono tk3⟩
        · obtain ⟨vs, ⟨k, e⟩, _⟩ := ce₂.data; exact ⟨st₃.fresh D _ e ce₂.d0.1, ce₂.d0.2⟩
        · exact ⟨r₃.own, hl0, r₃.above, hLD, let ⟨m, q, _⟩ := r₃.ns; ⟨m, q⟩⟩
        · exact W.frame _ _ _ hst₂ fun b hb o e => st₃.keep b o e (let ⟨q1, o', q2, _⟩ := hfp b hb; ce₂.fresh b o' q2 q1)
      -- the element's append
      have helt : ∀ (s₂ : Shared) (mu₂ : Mu), CompEnd C s2 s₂ mu1 mu₂ wl D L acc → R C (cenvOf scope L env cl) s₂.heap ⟨S1.loc, mu₂⟩ → Sx (i + 1) s₂.heap →
          EvE C n (cenvOf scope L env cl) elt ⟨S1.loc, mu₂⟩ (fun p mu => ∃ d, p = .dat d ∧ Inv (i + 1) (acc ++ [d]) mu) →
          wpAny C.M A (eval elt (cenvOf scope L env cl)) (fun x s₄ => wpAny C.M A (call (.builtin "list.append") [.ref D, x]) (fun _ s₅ => ∃ m, m < items.length + 1 - i ∧
            ∃ i acc mu', i ≤ items.length ∧ m = items.length + 1 - i ∧ R C (cenvOf scope L env cl) s₅.heap ⟨[], mu'⟩ ∧ CompEnd C s2 s₅ mu1 mu' wl D L acc ∧ Sx i s₅.heap ∧ Inv i acc mu') No s₄) No s₂ := by
        intro s₂ mu₂ ce₂ r₂ hst₂ he
        refine wpAny_mono (he A s₂ a r₂) ?_ fun _ _ x => x
        rintro x s₃ ⟨p, mu₃, hx, rb₃, st₃, d', rfl, hI'⟩
        obtain ⟨ce₃, r₃, hst₃⟩ := hstep s₃ mu₂ mu₃ s₂ ce₂ r₂ hst₂ rb₃ st₃
        obtain ⟨vs, hl, rd₃⟩ := ce₃.data
        have hvs : vs.size = acc.length := by rw [← Array.length_toList]; exact rd₃.length
        refine wpAny_list_append_plain hl (fun h₄ hl₄ sb => ?_) (by rw [hvs]; exact Nat.le_trans (hacc _ _ _ hI) (Nat.le_trans (Nat.le_of_lt hlt) hsz))
        obtain ⟨r₄, tk4⟩ := r₃.but (X := fun b => b = D) (fun b o e q => (sb.2 b q).trans e) fun b hb => by
          subst hb
          refine ⟨ce₃.d0.1, Ne.symm hLD, ce₃.d0.2.2, fun ob e => ?_⟩
          obtain ⟨k, e'⟩ := hl
          rw [e] at e'; cases e'; exact .inl (by simp)
        refine ⟨items.length + 1 - (i + 1), by omega, i + 1, acc ++ [d'], mu₃, hlt, rfl, r₄.less ⟨fun x p e => by simp at e, fun _ _ e => e⟩, ⟨r₄.rb, fun b o e m q => (sb.2 b fun q' => by rw [q', hd0.2.1] at e; cases e).trans (ce₃.keep b o e m q), ce₃.fresh, ?_, ce₃.d0, ?_, ce₃.tk.trans tk4, ce₃.gens, ce₃.os⟩, ?_, hI'⟩
        · exact ⟨_, hl₄, by rw [Array.toList_push]; exact (rd₃.append (.cons hx .nil)).mono tk4⟩
        · obtain ⟨q1, q2, q3, q4, _⟩ := ce₃.l0
          exact ⟨q1, q2, q3, q4, let ⟨m, q, _⟩ := r₄.ns; ⟨m, q⟩⟩
        · exact W.frame _ _ _ hst₃ fun b hb o e => (sb.2 b (hDf b hb)).trans e
      cases ifs with
      | nil => exact wpAny_tests_nil (helt s₂ S1.mu ce₂ r₂ hst₂ hb₂)
      | cons c ifs =>
        cases ifs with
        | cons c' ifs => exact hb₂.elim
        | nil =>
          refine wpAny_tests_one (wpAny_mono (hb₂ A s₂ a r₂) ?_ fun _ _ x => x)
          rintro b s₃ ⟨mu₃, rb₃, st₃, hb₃⟩
          obtain ⟨ce₃, r₃, hst₃⟩ := hstep s₃ S1.mu mu₃ s₂ ce₂ r₂ hst₂ rb₃ st₃
          split
          · rename_i e; rw [if_pos e] at hb₃; exact helt s₃ mu₃ ce₃ r₃ hst₃ hb₃
          · rename_i e; rw [if_neg e] at hb₃
            exact ⟨items.length + 1 - (i + 1), by omega, i + 1, acc, mu₃, hlt, rfl, r₃.less ⟨fun x p e => by simp at e, fun _ _ e => e⟩, ce₃, hst₃, hb₃⟩
    · have hin : i = items.length := by omega
      subst hin
      refine W.done _ _ _ hsti fun h₁ tk₁ hk₁ => ?_
      exact hR _ acc mu' hI (hbut h₁ tk₁ hk₁).2.2
  refine codeAny_compStart_list main ?_
  exact W.self 0 _ _ _ hst4 main
end
end
section
section
variable {C : Cx} {n : Nat} {env : Env} {S : St}

theorem RB.but {h h' : Heap} {mu : Mu} {X : Addr → Prop} (rb : C.RB h mu) (hk : ∀ b o, h.get? b = some o → ¬ X b → h'.get? b = some o) (hX : ∀ b, X b → mu b = none ∧ C.h.get? b = none ∧ ∀ ob, h.get? b = some ob → ∀ vs k, ob.data ≠ .seq vs k) : C.RB h' mu ∧ TupKeep h h' := by
  have tk : TupKeep h h' := fun a o vs k e c d => hk a o e fun x => (hX a x).2.2 o e vs k d
  refine ⟨⟨fun b o e => hk b o (rb.base b o e) fun x => ?_, fun a o e => ⟨(rb.ok a o e).1.grow (fun o q => hk a o q fun x => ?_) tk, (rb.ok a o e).2⟩⟩, tk⟩
  · rw [(hX b x).2.1] at e; cases e
  · rw [(hX a x).1] at e; cases e

/-- the list that a comprehension has made becomes one of the tracked -/
theorem comp_rb {s s2 s' : Shared} {mu1 mu' : Mu} {fp wl : List Addr} {I D L : Addr} {acc items : List PyData} {it : Value} {P : Nat → Value → Prop} {Sx : Nat → Heap → Prop} {h' : Heap}
    (st : Step S.mu mu1 s s2) (src : SrcAt C S.mu mu1 items s s2 it I fp wl P Sx) (ce : CompEnd C s2 s' mu1 mu' wl D L acc) (sb : Heap.SameBut L s'.heap h') :
    C.RB h' (upd mu' D (.list acc)) ∧ Step S.mu (upd mu' D (.list acc)) s { s' with heap := h' } := by
  obtain ⟨q1, q2, q3, q4, m, o, es, ep, ho, hd, _⟩ := ce.l0
  obtain ⟨rb', tk⟩ := RB.but (X := fun b => b = L) ce.rb (fun b o e q => (sb.2 b q).trans e) fun b hb => by
    subst hb
    exact ⟨q1, q3, fun ob e vs k q => by rw [e] at ho; cases ho; rw [hd] at q; cases q⟩
  obtain ⟨vs, ⟨k, e⟩, rd⟩ := ce.data
  refine ⟨⟨rb'.base, fun a mo q => ?_⟩, ⟨fun a ob e m => ?_, fun a ob e m => ?_, ce.gens.trans st.gens, ce.os.trans st.os⟩⟩
  · unfold upd at q
    split at q
    · rename_i h; subst h; cases q
      exact ⟨⟨vs, ⟨k, (sb.2 _ (Ne.symm q4)).trans e⟩, rd.mono tk⟩, ce.d0.2.2⟩
    · exact rb'.ok a mo q
  · have e2 := st.keep a ob e m
    refine (sb.2 a fun q => by rw [q, q2] at e2; cases e2).trans (ce.keep a ob e2 (st.fresh a ob e m) fun hb => (src.wr a hb).1 ob e m)
  · have e2 := st.keep a ob e m
    rw [upd_ne _ fun q => by rw [q, ce.d0.2.1] at e2; cases e2]
    exact ce.fresh a ob e2 (st.fresh a ob e m)

def CompOk (C : Cx) (n : Nat) (env : Env) (target elt : Expr) (ifs : List Expr) (scope : Scope) (cl : List (Str × Addr)) (Inv : List PyData → Nat → List PyData → Mu → Prop) (Fin : List PyData → Mu → Prop) (items : List PyData) (mu1 : Mu) : Prop :=
  items.length ≤ sizeLine ∧ Inv items 0 [] mu1 ∧ (∀ i acc mu, Inv items i acc mu → acc.length ≤ i) ∧
    (∀ i d acc mu' L, items[i]? = some d → Inv items i acc mu' → CompTurn C n (cenvOf scope L env cl) target elt ifs d acc mu' fun acc' mu'' => Inv items (i + 1) acc' mu'') ∧
    ∀ acc mu', Inv items items.length acc mu' → Fin acc mu'

theorem comp_mid {A : Around} {s s2 : Shared} {mu1 : Mu} {items : List PyData} {I : Addr} {fp wl : List Addr} {P : Nat → Value → Prop} {Sx : Nat → Heap → Prop}
    {elt target iter : Expr} {ifs : List Expr} {scope : Scope} {pos : Pos} {cl : List (Str × Addr)} {PP : Value → Addr → Result → Shared → Prop} {Inv : List PyData → Nat → List PyData → Mu → Prop} {Fin : List PyData → Mu → Prop}
    (a : Room n A) (rb : C.RB s2.heap mu1) (src : SrcAt C S.mu mu1 items s s2 (.ref I) I fp wl P Sx) (hkind : scope.kind = .function) (hcell : ∀ x ∈ scope.names, x.2 ≠ .cell)
    (ok : CompOk C n env target elt ifs scope cl Inv Fin items mu1)
    (hPP : ∀ D L s' acc mu', Fin acc mu' → CompEnd C s2 s' mu1 mu' wl D L acc → PP (.ref D) L (.ok .next) s') :
    wpAny C.M A (newList []) (fun acc s₃ => wpAny C.M A (newFunctionEnv scope env.globals cl [] env.qual none .none (some env)) (fun cenv s₄ =>
      codeAny C.M A (.compStart (.ListComp elt [⟨target, iter, ifs, 0⟩] scope pos) 0 (.ref I) acc { cenv with scope := relabel scope env }) (PP acc cenv.locals) s₄) No s₃) No s2 := by
  obtain ⟨hsz, hI0, hacc, hturn, hfin⟩ := ok
  have g := Grow.push s2 { cls := .type "list", data := .seq #[] } s2.toks
  refine wpAny_newList ?_ (by simp)
  refine wpAny_newFunctionEnv hcell (by intro x hx; cases hx) (fun h₁ hns sb => ?_) hkind
  have hD : (s2.heap.push { cls := .type "list", data := .seq #[] }).get? s2.heap.objs.size = some { cls := .type "list", data := .seq #[] } := Heap.get?_push_size _ rfl
  have hd0 : mu1 s2.heap.objs.size = none ∧ s2.heap.get? s2.heap.objs.size = none ∧ C.h.get? s2.heap.objs.size = none := ⟨RB.noSize rb, noLive _, RB.noBase rb (noLive _)⟩
  have hl0 : s2.heap.get? (s2.heap.push { cls := .type "list", data := .seq #[] }).objs.size = none := by
    cases q : s2.heap.get? (s2.heap.push { cls := .type "list", data := .seq #[] }).objs.size with
    | none => rfl
    | some o => exact absurd (Heap.lt_size q) (by simp)
  have hLD : (s2.heap.push { cls := .type "list", data := .seq #[] }).objs.size ≠ s2.heap.objs.size := by simp
  have hk₁ : ∀ b o, (s2.heap.push { cls := .type "list", data := .seq #[] }).get? b = some o → h₁.get? b = some o := fun b o e => sb.extBut b o (Nat.ne_of_lt (Heap.lt_size e)) (Heap.get?_push_of_some _ e)
  have g4 : Grow s2 { s2 with heap := h₁, toks := s2.toks + ([] : List (Str × Value)).length } := ⟨fun b o e => hk₁ b o (g.keep b o e), rfl, rfl⟩
  have hmL : mu1 (s2.heap.push { cls := .type "list", data := .seq #[] }).objs.size = none := RB.noSize (s := { s2 with heap := s2.heap.push { cls := .type "list", data := .seq #[] } }) (g.rb rb)
  have hbL : C.h.get? (s2.heap.push { cls := .type "list", data := .seq #[] }).objs.size = none := RB.noBase rb hl0
  generalize (s2.heap.push { cls := .type "list", data := .seq #[] }).objs.size = L at *
  exact comp_loop (s := s) (L := L) (Inv items) a src hsz hI0 hacc (fun i d acc mu' h1 h2 => hturn i d acc mu' L h1 h2) g4
    ⟨g4.rb rb, hmL, hbL, ⟨_, hns, fun x p e => by simp at e⟩⟩ ⟨0, hk₁ _ _ hD⟩ hd0 hl0 hLD fun s' acc mu' hI ce => hPP _ _ s' acc mu' (hfin acc mu' hI) ce

theorem E_comp {loc : List (Str × PV)} {mu₀ : Mu} {elt target iter : Expr} {ifs : List Expr} {scope : Scope} {pos : Pos} {Q : PV → Mu → Prop} (cl : List (Str × Addr)) (Inv : List PyData → Nat → List PyData → Mu → Prop)
    (hsrc : EvSrc C n env iter ⟨loc, mu₀⟩ (CompOk C n env target elt ifs scope cl Inv fun acc mu' => ∀ D, mu' D = none → Q (.ref D) (upd mu' D (.list acc))))
    (hcl : closureFor scope env = pure cl := by rfl) (hkind : scope.kind = .function := by rfl) (hnames : ∀ x ∈ scope.names, x.2 = .local → scope.names.lookup x.1 = some .local := by decide) (hcell : ∀ x ∈ scope.names, x.2 ≠ .cell := by decide)
    (hf : ∀ v, foldedSetIterable iter env v = pure v := by intro _; rfl) : EvE C n env (.ListComp elt [⟨target, iter, ifs, 0⟩] scope pos) ⟨loc, mu₀⟩ Q := by
  intro A s a r
  rw [eval_ListComp]
  refine wpAny_comprehension_free (cl := cl) rfl hf hcl hkind hnames ?_
  refine wpAny_mono (hsrc A s a r) ?_ fun _ _ x => x
  intro v s1 h1
  refine wpAny_mono h1 ?_ fun _ _ x => x
  rintro it s2 ⟨items, mu1, I, fp, wl, P, Sx, rb, st, src, ok⟩
  have hit := src.it
  subst hit
  refine comp_mid (PP := compPost C.M A No none (Post C mu₀ s Q)) a rb src hkind hcell ok fun D L s' acc mu' hfin ce => ?_
  obtain ⟨_, _, _, _, m, hm⟩ := ce.l0
  refine ⟨m, hm, fun h' sb => ?_⟩
  obtain ⟨rb', st'⟩ := comp_rb st src ce sb
  exact ⟨.ref D, _, rfl, rb', st', hfin D ce.d0.1⟩

theorem S_assign_comp {loc : List (Str × PV)} {mu₀ : Mu} {y : Str} {yp pos : Pos} {elt target iter : Expr} {ifs : List Expr} {scope : Scope} {cpos : Pos} {Q : Fl → St → Prop} (cl : List (Str × Addr)) (Inv : List PyData → Nat → List PyData → Mu → Prop)
    (hsrc : EvSrc C n env iter ⟨loc, mu₀⟩ (CompOk C n env target elt ifs scope cl Inv fun acc mu' => ∀ D, mu' D = none → Q .next ⟨(y, .ref D) :: loc, upd mu' D (.list acc)⟩))
    (hsw : swapsWith (.ListComp elt [⟨target, iter, ifs, 0⟩] scope cpos) (some (.Name y yp)) pos.line env = pure true := by rfl)
    (hy : env.kindOf y = some .local := by rfl) (hk : env.scope.kind = .function := by rfl)
    (hcl : closureFor scope env = pure cl := by rfl) (hkind : scope.kind = .function := by rfl) (hnames : ∀ x ∈ scope.names, x.2 = .local → scope.names.lookup x.1 = some .local := by decide) (hcell : ∀ x ∈ scope.names, x.2 ≠ .cell := by decide)
    (hf : ∀ v, foldedSetIterable iter env v = pure v := by intro _; rfl) : EvS1 C n env (.Assign [.Name y yp] (.ListComp elt [⟨target, iter, ifs, 0⟩] scope cpos) pos) ⟨loc, mu₀⟩ Q := by
  intro A s a r
  rw [exec_Assign]
  refine wpAny_bind (wpAny_standAt (wpAny_bind ?_))
  rw [show swapsWithSole [.Name y yp] (.ListComp elt [⟨target, iter, ifs, 0⟩] scope cpos) pos.line env = pure true from hsw]
  refine wpAny_pure ?_
  simp only [if_true]
  refine wpAny_bind ?_
  unfold evalThenUse
  refine wpAny_bind ?_
  refine wpAny_comprehension_free (cl := cl) rfl hf hcl hkind hnames ?_
  refine wpAny_mono (hsrc A s a r) ?_ fun _ _ x => x
  intro v s1 h1
  refine wpAny_mono h1 ?_ fun _ _ x => x
  rintro it s2 ⟨items, mu1, I, fp, wl, P, Sx, rb, st, src, ok⟩
  have hit := src.it
  subst hit
  refine comp_mid (PP := compPost C.M A No (some fun v => assignAll v ((assignEach [.Name y yp] env).map (·.2))) _) a rb src hkind hcell ok fun D L s' acc mu' hfin ce => ?_
  obtain ⟨rb', st'⟩ := comp_rb st src ce (Heap.SameBut.refl L s'.heap)
  have r' : R C env s'.heap ⟨loc, upd mu' D (.list acc)⟩ := r.step rb' st'
  show wpAny C.M A (assign (.Name y yp) env (.ref D)) _ No s'
  refine wpAny_assign_Name (wp_store (p := .ref D) r' rfl st'.toL (fun s'' r'' st'' tk sb => ?_) hy hk)
  obtain ⟨q1, q2, q3, q4, m, hm⟩ := ce.l0
  obtain ⟨m0, ⟨o0, es0, ep0, ho0, hd0, _⟩, _⟩ := r.ns
  have hLenv : L ≠ env.locals := fun q => by
    have := st.keep _ _ ho0 r.own
    rw [← q, q2] at this; cases this
  obtain ⟨oL, es, ep, hoL, hdL, rL⟩ := hm
  refine ⟨m, ⟨oL, es, ep, (sb.2 _ hLenv).trans hoL, hdL, rL⟩, fun h' sb' => ?_⟩
  have hmL : (upd mu' D (.list acc)) L = none := by rw [upd_ne _ q4]; exact q1
  obtain ⟨r3, tk3⟩ := r''.but (X := fun b => b = L) (fun b o e q => (sb'.2 b q).trans e) fun b hb => by
    subst hb
    exact ⟨hmL, hLenv, q3, fun ob e => by
      rw [(sb.2 _ hLenv).trans hoL] at e; cases e
      exact .inr fun vs k q => by rw [hdL] at q; cases q⟩
  refine wpAny_pure (wpAny_pure ⟨.next, _, trivial, r3, ⟨fun a o e m q => ?_, st''.fresh, fun a o e m => ?_, st''.gens, st''.os⟩, hfin D ce.d0.1⟩)
  · have hne : a ≠ L := fun q' => by have := st.keep a o e m; rw [q', q2] at this; cases this
    exact (sb'.2 a hne).trans (st''.keep a o e m q)
  · have hne : a ≠ L := fun q' => by have := st.keep a o e m; rw [q', q2] at this; cases this
    obtain ⟨o', e'⟩ := st''.live a o e m
    exact ⟨o', (sb'.2 a hne).trans e'⟩

/-! cells -/
theorem S_assign_cell {loc : List (Str × PV)} {mu₀ : Mu} {x : Str} {xp pos : Pos} {e : Expr} {c : Addr} {Q : Fl → St → Prop} (hc : env.cells.lookup x = some c)
    (h : EvE C n env e ⟨loc, mu₀⟩ fun p mu => ∃ q, mu c = some (.cell q) ∧ Q .next ⟨loc, upd mu c (.cell (some p))⟩)
    (hx : env.kindOf x = some .cell := by rfl) (hk : env.scope.kind = .function := by rfl) (hs : swapsWith e (some (.Name x xp)) pos.line env = pure false := by rfl) : EvS1 C n env (.Assign [.Name x xp] e pos) ⟨loc, mu₀⟩ Q := by
  intro A s a r
  refine wpAny_Assign_Name (wpAny_mono (h A s a r) ?_ fun _ _ x => x) hs
  rintro v s1 ⟨p, mu1, hv, rb, st, q, hq, h1⟩
  have r1 := r.step rb st
  have hcell : ∃ v₀, s1.heap.IsCell c v₀ := by
    have := (rb.ok _ _ hq).1
    cases q with
    | none => exact ⟨_, this⟩
    | some q => obtain ⟨v, b, _⟩ := this; exact ⟨_, b⟩
  obtain ⟨v₀, hv₀⟩ := hcell
  refine wpAny_storeName_cell hk hx hc hv₀ fun h' hv' sb => ?_
  have hne : ∀ b o, s1.heap.get? b = some o → b ≠ c → h'.get? b = some o := fun b o q1 q2 => (sb.2 b q2).trans q1
  have tk : TupKeep s1.heap h' := fun b o ws k q1 q2 q3 => hne b o q1 fun q4 => by
    obtain ⟨o', e', d'⟩ := hv₀
    rw [q4, e'] at q1; cases q1; rw [d'] at q3; cases q3
  have hcn := (rb.ok _ _ hq).2
  have st4 : Step mu1 (upd mu1 c (.cell (some p))) s1 { s1 with heap := h' } := by
    refine ⟨fun b o q1 q2 => hne b o q1 fun q4 => (by rw [q4, hq] at q2; cases q2), fun b o q1 q2 => ?_, rfl, rfl⟩
    have : b ≠ c := fun q4 => by rw [q4, hq] at q2; cases q2
    rw [upd_ne _ this]; exact q2
  have rb4 : C.RB h' (upd mu1 c (.cell (some p))) := by
    refine ⟨fun b o q => hne b o (rb.base _ _ q) fun q4 => ?_, fun b o q => ?_⟩
    · rw [q4, hcn] at q; cases q
    · unfold upd at q
      split at q
      · rename_i q1; subst q1; cases q
        exact ⟨⟨v, hv', hv.mono tk⟩, hcn⟩
      · rename_i q1
        exact ⟨(rb.ok _ _ q).1.grow (fun o q2 => hne b o q2 q1) tk, (rb.ok _ _ q).2⟩
  exact ⟨.next, _, trivial, r1.step rb4 st4, (st.trans st4).toL, h1⟩

theorem fn_enterC {f : Str} {a : Addr} {o : Obj} {fd : FuncData} {body : List Stmt} {x : Str} {p : PV} {mu : Mu} {K : PV → Mu → Prop} (mu' : Addr → Mu)
    (hm : C.mg f = some (.ref a)) (ho : C.h.get? a = some o) (hd : o.data = .func fd) (hcd : C.h.CodeRec fd.code fd.qualname) (hb : fd.body = .stmts body)
    (hbind : ∀ v, bindArgs fd ⟨[v], []⟩ = pure [(x, v)]) (hx : fd.scope.names.lookup x = some .cell) (hxc : ∀ n, ((cellsFrom n fd.scope.names []).lookup x).isSome = true)
    (hco : fd.scope.isCoroutine = false) (hgen : fd.scope.isGenerator = false) (hk : fd.scope.kind = .function) (hcl : fd.closure = [])
    (hmu : ∀ L b m, mu' L b = some m → mu b = some m ∨ ∃ y, (cellsFrom (L + 1) fd.scope.names []).lookup y = some b ∧ m = .cell (if y = x then some p else none))
    (hmuN : ∀ L b, b < L → mu' L b = mu b)
    (h : ∀ L, (∀ c, L ≤ c → mu c = none) → EvS C n (newEnv fd.scope L fd.globals (cellsFrom (L + 1) fd.scope.names []) (fd.qualname ++ Str.ofString ".<locals>.") (some a) fd.code none fd.builtins) body ⟨[], mu' L⟩ (RetK K)) : FnOk C (n + 1) f mu [p] K := by
  intro a' hm' A s vs q rb hvs
  rw [hm] at hm'; cases hm'
  obtain ⟨v, rfl, hv⟩ := pv1 hvs
  refine wpAny_call (codeAny_call_function (by have := q.depth; omega) (rb.base _ _ ho) hd hco hgen hb (hcd.keeps rb.base) ?_)
  rw [hbind v, hcl]
  refine wpAny_pure (wpAny_newFunctionEnv_cells hk (fun y hy => ?_) fun env he s' ic => ?_)
  · rw [List.mem_singleton.mp hy]; exact .inr ⟨hx, hxc _⟩
  subst he
  refine ⟨(C.ok.nolimit.keeps rb.base).keeps ic.toInCall.keep, codeAny_func ?_⟩
  obtain ⟨h₁, tk, rfl, hk₁⟩ := ic.done
  have hns := ic.toInCall.ns
  have hcell := ic.cell
  have habove : ∀ y c, (cellsFrom (s.heap.objs.size + 1) fd.scope.names []).lookup y = some c → s.heap.objs.size < c := fun y c e => by
    have : ∀ (l : List (Str × Addr)), l.lookup y = some c → (y, c) ∈ l := by
      intro l
      induction l with
      | nil => intro e; cases e
      | cons z l ih =>
        intro e
        by_cases hz : y = z.1
        · subst hz; rw [List.lookup_cons, beq_self_eq_true] at e; cases e; exact List.mem_cons_self
        · rw [List.lookup_cons, show (y == z.1) = false from beq_false_of_ne hz] at e; exact List.mem_cons_of_mem _ (ih e)
    exact ic.above y c (this _ e)
  have g : Grow s { s with heap := h₁, toks := tk } := ⟨hk₁, rfl, rfl⟩
  have hkx : (newEnv fd.scope s.heap.objs.size fd.globals (cellsFrom (s.heap.objs.size + 1) fd.scope.names []) (fd.qualname ++ Str.ofString ".<locals>.") (some a) fd.code none fd.builtins).kindOf x = some .cell := hx
  have r : R C (newEnv fd.scope s.heap.objs.size fd.globals (cellsFrom (s.heap.objs.size + 1) fd.scope.names []) (fd.qualname ++ Str.ofString ".<locals>.") (some a) fd.code none fd.builtins) h₁ ⟨[], mu' s.heap.objs.size⟩ := by
    refine ⟨⟨(g.rb rb).base, fun b m e => ?_⟩, ?_, RB.noBase rb (noLive _), ⟨_, hns, fun y p e => by simp at e⟩⟩
    · rcases hmu _ _ _ e with e | ⟨y, e', he⟩
      · exact (g.rb rb).ok b m e
      · clear e
        have e := e'
        subst he
        have hc := hcell y b e
        have hb0 : C.h.get? b = none := by
          cases q : C.h.get? b with
          | none => rfl
          | some ob => exact absurd (Nat.lt_trans (habove y b e) (Heap.lt_size (rb.base _ _ q))) (Nat.lt_irrefl _)
        have e2 : bindC (newEnv fd.scope s.heap.objs.size fd.globals (cellsFrom (s.heap.objs.size + 1) fd.scope.names []) (fd.qualname ++ Str.ofString ".<locals>.") (some a) fd.code none fd.builtins).kindOf [(x, v)] (fun _ => none) y = if y = x then some v else none := by
          simp only [bindC, hkx]; rfl
        rw [e2] at hc
        by_cases hy : y = x
        · simp only [hy, if_true] at hc ⊢
          exact ⟨⟨v, hc, hv.mono g.tup⟩, hb0⟩
        · simp only [hy, if_false] at hc ⊢
          exact ⟨hc, hb0⟩
    · cases e : mu' s.heap.objs.size s.heap.objs.size with
      | none => exact e
      | some m =>
        rcases hmu _ _ _ e with e | ⟨y, e, _⟩
        · rw [RB.noSize rb] at e; cases e
        · exact absurd (habove y _ e) (Nat.lt_irrefl _)
  have hfr : ∀ c, s.heap.objs.size ≤ c → mu c = none := fun c hc => by
    cases e : mu c with
    | none => rfl
    | some m => obtain ⟨_, e'⟩ := RB.live rb e; exact absurd (Heap.lt_size e') (Nat.not_lt.mpr hc)
  refine wpAny_mono (h s.heap.objs.size hfr (A.deeper _) { s with heap := h₁, toks := tk } (q.deeper _) r) ?_ fun _ _ x => x.elim
  rintro fl s' ⟨f', S', hf, r', st', hq⟩
  cases fl <;> cases f' <;> first | exact hf.elim | exact hq.elim | skip
  obtain ⟨mu2, hs, hK⟩ := hq
  have hno : ∀ b o, s.heap.get? b = some o → mu b = none → mu' s.heap.objs.size b = none := fun b o e m => by rw [hmuN _ _ (Heap.lt_size e)]; exact m
  exact ⟨_, mu2, hf, RB.less r'.rb hs, ⟨fun b o e m => st'.keep b o (hk₁ _ _ e) (hno b o e m) (Nat.ne_of_lt (Heap.lt_size e)), fun b o e m => none_less hs (st'.fresh b o (hk₁ _ _ e) (hno b o e m)), st'.gens, st'.os⟩, hK⟩

theorem sub_nil {l' : List (Str × PV)} : ∀ x p, ([] : List (Str × PV)).lookup x = some p → l'.lookup x = some p := fun _ _ e => by cases e
theorem sub_cons {l l' : List (Str × PV)} {k : Str} {v : PV} (h : l'.lookup k = some v) (r : ∀ x p, l.lookup x = some p → l'.lookup x = some p) : ∀ x p, ((k, v) :: l).lookup x = some p → l'.lookup x = some p := by
  intro x p e
  by_cases hx : x = k
  · subst hx; rw [lookup_cons_self] at e; cases e; exact h
  · rw [lookup_cons_ne hx] at e; exact r x p e

theorem ite_cs {c : Bool} {a b : Prop} (h1 : c = true → a) (h2 : c = false → b) : if c = true then a else b := by
  cases c with
  | true => exact h1 rfl
  | false => exact h2 rfl
theorem ite_t {c : Bool} {a b : Prop} (h : c = true) (x : a) : if c = true then a else b := by rw [if_pos h]; exact x
theorem ite_f {c : Bool} {a b : Prop} (h : c = false) (x : b) : if c = true then a else b := by rw [if_neg (by rw [h]; simp)]; exact x
end
end
section
set_option maxRecDepth 1000000
set_option maxHeartbeats 0
/-- the text without its two rows that bind its name anew -/
def view : Program := { PySem.Challenge.pw_rr0080_01 with main := { PySem.Challenge.pw_rr0080_01.main with body := (PySem.Challenge.pw_rr0080_01.main.body.drop 1).take 25 ++ PySem.Challenge.pw_rr0080_01.main.body.drop 27 } }
theorem said_row : PySem.Challenge.rw_rr0080_01.row.wellSaid = true := by kernel_rfl
theorem said : PySem.Challenge.rw_rr0080_01.wellSaid = true := by
  delta OpenLaw.wellSaid
  repeat' (with_reducible refine look_both ?_ ?_)
  exact said_row
  all_goals kernel_rfl
theorem chained : (chainsOk view && opensWell PySem.Challenge.pw_rr0080_01) = true := by kernel_rfl
theorem left : LeftO PySem.Challenge.pw_rr0080_01 view [] (fun s => xlAt view [] s && recOk [] s) (fun _ => ()) (fun _ => ()) 2684 := by
  intro w
  kernel_rfl
def recS : Stmt → Option DefRec
  | .FunctionDef name params body _ _ _ scope _ _ pos => some ⟨name, params, body, scope, pos⟩
  | _ => none
def recQ (f : Str) : Option DefRec := (view.main.body.filterMap recS).find? fun d => d.name == f
theorem recs_eq : recsOf view = view.main.body.filterMap recS := by kernel_rfl
theorem recQ_mem {f : Str} {d : DefRec} (h : recQ f = some d) : d ∈ recsOf view ∧ d.name = f := by
  rw [recs_eq]
  exact ⟨List.mem_of_find?_eq_some h, by simpa using List.find?_some h⟩
def freeQ (x : Str) : Bool := !(startupNames.contains x) && !((looseW view []).contains x) && !(((recsOf view).map (·.name)).contains x) && !(((litsOf view).map (·.1)).contains x) && !(((clssOf view (looseW view [])).map (·.name)).contains x)
def freeN : List Str := ["range", "abs", "len", "str", "int", "tuple", "min", "isinstance"]
theorem freeN_ok : freeN.all freeQ = true := by kernel_rfl
def constsL : List (Str × PyData) := [("LOOSE", .int 0), ("ARROW", .int 3), ("COMPARED", .int 6), ("MULT", .int 7), ("TIMES", .int 12), ("BOX", .int 15), ("WHOLE", .int 18), ("_law_letters", .str "abcdefghijklmnopqrstuvwxyzABCDEFGHIJKLMNOPQRSTUVWXYZ0123456789_/")]
theorem constsL_ok : constsL.map (fun c => valOf view c.1) = constsL.map (fun c => some c.2) := by kernel_rfl
theorem mults_ok : tupStrsOf view "MULTS" = some (["some", "no", "lone", "one", "set"] : List Str) := by kernel_rfl
end
section
set_option maxRecDepth 100000
/-- what the top has left: the defs, the free names, the written constants -/
structure Cok (C : Cx) : Prop where
  fn : ∀ f d, recQ f = some d → C.mg f = some (.ref (C.fv f).1) ∧ ∃ o, C.h.get? (C.fv f).1 = some o ∧ o.data = .func (Calls.docDef d.name d.params d.body d.scope (C.fv f).2.1 (C.fv f).2.2.1 (C.fv f).2.2.2) ∧ C.h.CodeRec (C.fv f).2.2.1 d.name
  free : ∀ x, freeN.contains x = true → C.mg x = none
  const : ∀ x d, constsL.lookup x = some d → ∃ v, C.mg x = some v ∧ ∀ h' : Heap, Reads h' v d []
  mults : ∃ v, C.mg "MULTS" = some v ∧ Rd C.h v (.tuple [.str "some", .str "no", .str "lone", .str "one", .str "set"])

theorem rd_strs {h : Heap} : ∀ {vs : List Value} {ss : List Str}, StrsAre vs ss → RdAll h vs (ss.map .str)
  | _, _, .nil => .nil
  | _, _, .cons _ _ r => .cons (.str _ _) (rd_strs r)
theorem lookup_mem {l : List (Str × PyData)} {x : Str} {d : PyData} (e : l.lookup x = some d) : (x, d) ∈ l := by
  induction l with
  | nil => cases e
  | cons z l ih =>
    by_cases hz : x = z.1
    · subst hz; rw [List.lookup_cons, beq_self_eq_true] at e; cases e; exact List.mem_cons_self
    · rw [List.lookup_cons, show (x == z.1) = false from beq_false_of_ne hz] at e; exact List.mem_cons_of_mem _ (ih e)
theorem cok_of {prog : Program} {w : World} {h : Heap} {mg mb : Str → Option Value} {mean : ExcName → Option Value} (ok : Gd h mg mb) (T : Top view (looseW view []) mean mg mb h) (B : Tables view w mg h) :
    ∃ fv, Cok ⟨prog, w, h, mg, mb, fv, ok⟩ := by
  have hf : ∀ f, ∃ t : Addr × Value × Value × Value, ∀ d, recQ f = some d → mg f = some (.ref t.1) ∧ ∃ o, h.get? t.1 = some o ∧ o.data = .func (Calls.docDef d.name d.params d.body d.scope t.2.1 t.2.2.1 t.2.2.2) ∧ h.CodeRec t.2.2.1 d.name := by
    intro f
    cases e : recQ f with
    | none => exact ⟨(0, .none, .none, .none), fun d h => by cases h⟩
    | some d =>
      obtain ⟨hm, hn⟩ := recQ_mem e
      obtain ⟨a, o, pm, code, doc, h1, h2, h3, h4⟩ := T.fn d hm
      exact ⟨(a, pm, code, doc), fun d' h => by cases h; exact ⟨hn ▸ h1, o, h2, h3, h4⟩⟩
  obtain ⟨fv, hfv⟩ := Classical.axiomOfChoice hf
  refine ⟨fv, fun f d e => hfv f d e, fun x hx => ?_, fun x d e => ?_, ?_⟩
  · have := List.all_eq_true.mp freeN_ok x (List.contains_iff_mem.mp hx)
    unfold freeQ at this
    simp only [Bool.and_eq_true, Bool.not_eq_true', ← Bool.not_eq_true, List.contains_iff_mem] at this
    obtain ⟨⟨⟨⟨h1, h2⟩, h3⟩, h4⟩, h5⟩ := this
    exact T.free x h1 h2 h3 h4 h5
  · have hm := lookup_mem e
    obtain ⟨i, hi⟩ := List.mem_iff_getElem?.mp hm
    have := congrArg (fun l => l[i]?) constsL_ok
    simp only [List.getElem?_map, hi, Option.map_some] at this
    exact T.const x d (Option.some.inj this)
  · obtain ⟨a, vs, h1, ⟨o, e1, e2, k, e3⟩, h3⟩ := B.tupS "MULTS" _ mults_ok
    exact ⟨_, h1, .tuple e1 e2 e3 (rd_strs h3)⟩

theorem globN {C : Cx} (X : Cok C) {x : Str} (e : freeN.contains x = true) : C.mg x = none := X.free x e

/-- the frame's names of a def -/
def fenv (d : DefRec) (C : Cx) (f : Str) (L : Addr) : Env := callEnv (Calls.docDef d.name d.params d.body d.scope (C.fv f).2.1 (C.fv f).2.2.1 (C.fv f).2.2.2) L (C.fv f).1
theorem enter {C : Cx} (X : Cok C) {n : Nat} {f : Str} {name : Str} {params : Arguments} {body : List Stmt} {scope : Scope} {pos : Pos} (names : List Str) {ps : List PV} {mu : Mu} {K : PV → Mu → Prop}
    (e1 : recQ f = some ⟨name, params, body, scope, pos⟩) (_ : True = True) (_ : True = True) (_ : True = True) (hlen : names.length = ps.length)
    (hbind : ∀ {pm code doc : Value}, ∀ vs, vs.length = ps.length → bindArgs (Calls.docDef name params body scope pm code doc) ⟨vs, []⟩ = pure (names.zip vs)) (hcell : ∀ x ∈ scope.names, x.2 ≠ .cell) (hloc : ∀ x ∈ names, scope.names.lookup x = some .local)
    (hco : scope.isCoroutine = false) (hgen : scope.isGenerator = false) (hk : scope.kind = .function)
    (h : ∀ L, EvS C n (fenv ⟨name, params, body, scope, pos⟩ C f L) body ⟨(names.zip ps).reverse, mu⟩ (RetK K)) : FnOk C (n + 1) f mu ps K := by
  obtain ⟨h1, o, h2, h3, h4⟩ := X.fn f _ e1
  exact fn_enter h1 h2 h3 h4 rfl hlen hbind hcell hloc hco hgen hk h

theorem enterC {C : Cx} (X : Cok C) {n : Nat} {f : Str} {name : Str} {params : Arguments} {body : List Stmt} {scope : Scope} {pos : Pos} {x : Str} {p : PV} {mu : Mu} {K : PV → Mu → Prop} (mu' : Addr → Mu)
    (e1 : recQ f = some ⟨name, params, body, scope, pos⟩) (_ : True = True) (_ : True = True) (_ : True = True)
    (hbind : ∀ {pm code doc : Value}, ∀ v, bindArgs (Calls.docDef name params body scope pm code doc) ⟨[v], []⟩ = pure [(x, v)]) (hx : scope.names.lookup x = some .cell) (hxc : ∀ n, ((cellsFrom n scope.names []).lookup x).isSome = true)
    (hco : scope.isCoroutine = false) (hgen : scope.isGenerator = false) (hk : scope.kind = .function) (_ : True = True)
    (hmu : ∀ L b m, mu' L b = some m → mu b = some m ∨ ∃ y, (cellsFrom (L + 1) scope.names []).lookup y = some b ∧ m = .cell (if y = x then some p else none))
    (hmuN : ∀ L b, b < L → mu' L b = mu b)
    (h : ∀ L, (∀ c, L ≤ c → mu c = none) → EvS C n (newEnv scope L mainGlobals (cellsFrom (L + 1) scope.names []) (name ++ Str.ofString ".<locals>.") (some (C.fv f).1) (C.fv f).2.2.1 none builtinsNs) body ⟨[], mu' L⟩ (RetK K)) : FnOk C (n + 1) f mu [p] K := by
  obtain ⟨h1, o, h2, h3, h4⟩ := X.fn f _ e1
  exact fn_enterC mu' h1 h2 h3 h4 rfl hbind hx hxc hco hgen hk rfl hmu hmuN h

theorem bind1 {fd : FuncData} {x : Str} {ps : List PV} (h1 : ps.length = 1) (h : ∀ v, bindArgs fd ⟨[v], []⟩ = pure [(x, v)]) : ∀ vs : List Value, vs.length = ps.length → bindArgs fd ⟨vs, []⟩ = pure ([x].zip vs) := by
  intro vs hv
  rw [h1] at hv
  match vs, hv with
  | [v], _ => exact h v
theorem bind2 {fd : FuncData} {x y : Str} {ps : List PV} (h1 : ps.length = 2) (h : ∀ v u, bindArgs fd ⟨[v, u], []⟩ = pure [(x, v), (y, u)]) : ∀ vs : List Value, vs.length = ps.length → bindArgs fd ⟨vs, []⟩ = pure ([x, y].zip vs) := by
  intro vs hv
  rw [h1] at hv
  match vs, hv with
  | [v, u], _ => exact h v u
theorem bind3 {fd : FuncData} {x y z : Str} {ps : List PV} (h1 : ps.length = 3) (h : ∀ v u t, bindArgs fd ⟨[v, u, t], []⟩ = pure [(x, v), (y, u), (z, t)]) : ∀ vs : List Value, vs.length = ps.length → bindArgs fd ⟨vs, []⟩ = pure ([x, y, z].zip vs) := by
  intro vs hv
  rw [h1] at hv
  match vs, hv with
  | [v, u, t], _ => exact h v u t

section
variable {C : Cx} {n : Nat} {env : Env} {S : St} {Q : PV → Mu → Prop}

/-- a global name that holds data -/
theorem E_glob {loc : List (Str × PV)} {mu₀ : Mu} {x : Str} {pos : Pos} {v : Value} {d : PyData} (e : C.mg x = some v) (rd : Rd C.h v d) (h : Q (.dat d) mu₀)
    (hg : env.globals = mainGlobals := by rfl) (hx : env.kindOf x = some .globalImplicit := by rfl) (hk : env.scope.kind = .function := by rfl) (hd : (x == ("__debug__" : Str)) = false := by rfl) : EvE C n env (.Name x pos) ⟨loc, mu₀⟩ Q := by
  intro A s _ r
  exact wp_glob r.rb e ((Grow.refl s s.toks).post r.rb (p := .dat d) (Rd.mono (fun a o _ _ q _ _ => r.rb.base a o q) rd) h) hg hx hk hd
theorem E_gint {loc : List (Str × PV)} {mu₀ : Mu} (X : Cok C) {x : Str} {pos : Pos} {i : Int} (e : constsL.lookup x = some (.int i)) (h : Q (.dat (.int i)) mu₀)
    (hg : env.globals = mainGlobals := by rfl) (hx : env.kindOf x = some .globalImplicit := by rfl) (hk : env.scope.kind = .function := by rfl) (hd : (x == ("__debug__" : Str)) = false := by rfl) : EvE C n env (.Name x pos) ⟨loc, mu₀⟩ Q := by
  obtain ⟨v, h1, h2⟩ := X.const x _ e
  have h3 := h2 C.h
  cases h3
  exact E_glob h1 (.int _ _) h hg hx hk hd
theorem E_gstr {loc : List (Str × PV)} {mu₀ : Mu} (X : Cok C) {x : Str} {pos : Pos} {i : Str} (e : constsL.lookup x = some (.str i)) (h : Q (.dat (.str i)) mu₀)
    (hg : env.globals = mainGlobals := by rfl) (hx : env.kindOf x = some .globalImplicit := by rfl) (hk : env.scope.kind = .function := by rfl) (hd : (x == ("__debug__" : Str)) = false := by rfl) : EvE C n env (.Name x pos) ⟨loc, mu₀⟩ Q := by
  obtain ⟨v, h1, h2⟩ := X.const x _ e
  have h3 := h2 C.h
  cases h3
  exact E_glob h1 (.str _ _) h hg hx hk hd

theorem E_len {loc : List (Str × PV)} {mu₀ : Mu} (X : Cok C) {np pos : Pos} {e : Expr} {es : List Expr} (h : EvL C n env pos (e :: es) ⟨loc, mu₀⟩ (CallK C n (.builtin "len") Q)) (hg : env.globals = mainGlobals := by rfl) (hbl : env.builtins = builtinsNs := by rfl) (hx : env.kindOf "len" = some .globalImplicit := by rfl) (hk : env.scope.kind = .function := by rfl)
    (he : backTo pos (starEach (e :: es) env) = (false, eval e env) :: backTo pos (starEach es env) := by rfl) (hany : (backTo pos (starEach es env)).any (·.1) = false := by rfl) : EvE C n env (.Call (.Name "len" np) (e :: es) [] pos) ⟨loc, mu₀⟩ Q :=
  E_blt (globN X (by rfl)) boot_len rfl h (by decide) hg hbl hx hk (by rfl) he hany
theorem E_strC {loc : List (Str × PV)} {mu₀ : Mu} (X : Cok C) {np pos : Pos} {e : Expr} {es : List Expr} (h : EvL C n env pos (e :: es) ⟨loc, mu₀⟩ (CallK C n (.type "str") Q)) (hg : env.globals = mainGlobals := by rfl) (hbl : env.builtins = builtinsNs := by rfl) (hx : env.kindOf "str" = some .globalImplicit := by rfl) (hk : env.scope.kind = .function := by rfl)
    (he : backTo pos (starEach (e :: es) env) = (false, eval e env) :: backTo pos (starEach es env) := by rfl) (hany : (backTo pos (starEach es env)).any (·.1) = false := by rfl) : EvE C n env (.Call (.Name "str" np) (e :: es) [] pos) ⟨loc, mu₀⟩ Q :=
  E_blt (globN X (by rfl)) PyProof.Rows.boot_str rfl h (by decide) hg hbl hx hk (by rfl) he hany
theorem E_intC {loc : List (Str × PV)} {mu₀ : Mu} (X : Cok C) {np pos : Pos} {e : Expr} {es : List Expr} (h : EvL C n env pos (e :: es) ⟨loc, mu₀⟩ (CallK C n (.type "int") Q)) (hg : env.globals = mainGlobals := by rfl) (hbl : env.builtins = builtinsNs := by rfl) (hx : env.kindOf "int" = some .globalImplicit := by rfl) (hk : env.scope.kind = .function := by rfl)
    (he : backTo pos (starEach (e :: es) env) = (false, eval e env) :: backTo pos (starEach es env) := by rfl) (hany : (backTo pos (starEach es env)).any (·.1) = false := by rfl) : EvE C n env (.Call (.Name "int" np) (e :: es) [] pos) ⟨loc, mu₀⟩ Q :=
  E_blt (globN X (by rfl)) PyProof.Rows.boot_int rfl h (by decide) hg hbl hx hk (by rfl) he hany
theorem E_tupC {loc : List (Str × PV)} {mu₀ : Mu} (X : Cok C) {np pos : Pos} {e : Expr} {es : List Expr} (h : EvL C n env pos (e :: es) ⟨loc, mu₀⟩ (CallK C n (.type "tuple") Q)) (hg : env.globals = mainGlobals := by rfl) (hbl : env.builtins = builtinsNs := by rfl) (hx : env.kindOf "tuple" = some .globalImplicit := by rfl) (hk : env.scope.kind = .function := by rfl)
    (he : backTo pos (starEach (e :: es) env) = (false, eval e env) :: backTo pos (starEach es env) := by rfl) (hany : (backTo pos (starEach es env)).any (·.1) = false := by rfl) : EvE C n env (.Call (.Name "tuple" np) (e :: es) [] pos) ⟨loc, mu₀⟩ Q :=
  E_blt (globN X (by rfl)) PyProof.Rows.boot_tuple rfl h (by decide) hg hbl hx hk (by rfl) he hany
theorem E_minC {loc : List (Str × PV)} {mu₀ : Mu} (X : Cok C) {np pos : Pos} {e : Expr} {es : List Expr} (h : EvL C n env pos (e :: es) ⟨loc, mu₀⟩ (CallK C n (.builtin "min") Q)) (hg : env.globals = mainGlobals := by rfl) (hbl : env.builtins = builtinsNs := by rfl) (hx : env.kindOf "min" = some .globalImplicit := by rfl) (hk : env.scope.kind = .function := by rfl)
    (he : backTo pos (starEach (e :: es) env) = (false, eval e env) :: backTo pos (starEach es env) := by rfl) (hany : (backTo pos (starEach es env)).any (·.1) = false := by rfl) : EvE C n env (.Call (.Name "min" np) (e :: es) [] pos) ⟨loc, mu₀⟩ Q :=
  E_blt (globN X (by rfl)) boot_min rfl h (by decide) hg hbl hx hk (by rfl) he hany
theorem E_absC {loc : List (Str × PV)} {mu₀ : Mu} (X : Cok C) {np pos : Pos} {e : Expr} {es : List Expr} (h : EvL C n env pos (e :: es) ⟨loc, mu₀⟩ (CallK C n (.builtin "abs") Q)) (hg : env.globals = mainGlobals := by rfl) (hbl : env.builtins = builtinsNs := by rfl) (hx : env.kindOf "abs" = some .globalImplicit := by rfl) (hk : env.scope.kind = .function := by rfl)
    (he : backTo pos (starEach (e :: es) env) = (false, eval e env) :: backTo pos (starEach es env) := by rfl) (hany : (backTo pos (starEach es env)).any (·.1) = false := by rfl) : EvE C n env (.Call (.Name "abs" np) (e :: es) [] pos) ⟨loc, mu₀⟩ Q :=
  E_blt (globN X (by rfl)) boot_abs rfl h (by decide) hg hbl hx hk (by rfl) he hany

theorem E_joinC {loc : List (Str × PV)} {mu₀ : Mu} {o : Expr} {apos pos : Pos} {e : Expr} {es : List Expr}
    (h : EvE C n env o ⟨loc, mu₀⟩ (MethK C n env "str" "str.join" pos (e :: es) loc Q))
    (hab : attributeBase o "join" env (eval o env) = eval o env := by rfl)
    (hnum : (((backTo pos (starEach (e :: es) env)).all (!·.1) && (backToKw pos (keywordEach [] env)).all (·.1.isSome)) && decide (((e :: es).length + ([] : List Keyword).length + if ([] : List Keyword).isEmpty then 0 else 1) < 30)) = true := by rfl)
    (hli : (apos.endLine == pos.line) = true := by rfl)
    (he : backTo pos (starEach (e :: es) env) = (false, eval e env) :: backTo pos (starEach es env) := by rfl) (hany : (backTo pos (starEach es env)).any (·.1) = false := by rfl) :
    EvE C n env (.Call (.Attribute o "join" apos) (e :: es) [] pos) ⟨loc, mu₀⟩ Q := E_meth F.plainAttrs_str F.slot_str_join (by show builtinType _ = _; rw [builtinType_eq_fast]; kernel_rfl) h hab hnum hli he hany
theorem E_startsC {loc : List (Str × PV)} {mu₀ : Mu} {o : Expr} {apos pos : Pos} {e : Expr} {es : List Expr}
    (h : EvE C n env o ⟨loc, mu₀⟩ (MethK C n env "str" "str.startswith" pos (e :: es) loc Q))
    (hab : attributeBase o "startswith" env (eval o env) = eval o env := by rfl)
    (hnum : (((backTo pos (starEach (e :: es) env)).all (!·.1) && (backToKw pos (keywordEach [] env)).all (·.1.isSome)) && decide (((e :: es).length + ([] : List Keyword).length + if ([] : List Keyword).isEmpty then 0 else 1) < 30)) = true := by rfl)
    (hli : (apos.endLine == pos.line) = true := by rfl)
    (he : backTo pos (starEach (e :: es) env) = (false, eval e env) :: backTo pos (starEach es env) := by rfl) (hany : (backTo pos (starEach es env)).any (·.1) = false := by rfl) :
    EvE C n env (.Call (.Attribute o "startswith" apos) (e :: es) [] pos) ⟨loc, mu₀⟩ Q := E_meth F.plainAttrs_str F.slot_str_startswith (by show builtinType _ = _; rw [builtinType_eq_fast]; kernel_rfl) h hab hnum hli he hany
theorem E_splitC {loc : List (Str × PV)} {mu₀ : Mu} {o : Expr} {apos pos : Pos} {e : Expr} {es : List Expr}
    (h : EvE C n env o ⟨loc, mu₀⟩ (MethK C n env "str" "str.split" pos (e :: es) loc Q))
    (hab : attributeBase o "split" env (eval o env) = eval o env := by rfl)
    (hnum : (((backTo pos (starEach (e :: es) env)).all (!·.1) && (backToKw pos (keywordEach [] env)).all (·.1.isSome)) && decide (((e :: es).length + ([] : List Keyword).length + if ([] : List Keyword).isEmpty then 0 else 1) < 30)) = true := by rfl)
    (hli : (apos.endLine == pos.line) = true := by rfl)
    (he : backTo pos (starEach (e :: es) env) = (false, eval e env) :: backTo pos (starEach es env) := by rfl) (hany : (backTo pos (starEach es env)).any (·.1) = false := by rfl) :
    EvE C n env (.Call (.Attribute o "split" apos) (e :: es) [] pos) ⟨loc, mu₀⟩ Q := E_meth F.plainAttrs_str F.slot_str_split (by show builtinType _ = _; rw [builtinType_eq_fast]; kernel_rfl) h hab hnum hli he hany
theorem E_appendC {loc : List (Str × PV)} {mu₀ : Mu} {o : Expr} {apos pos : Pos} {e : Expr} {es : List Expr}
    (h : EvE C n env o ⟨loc, mu₀⟩ (MethK C n env "list" "list.append" pos (e :: es) loc Q))
    (hab : attributeBase o "append" env (eval o env) = eval o env := by rfl)
    (hnum : (((backTo pos (starEach (e :: es) env)).all (!·.1) && (backToKw pos (keywordEach [] env)).all (·.1.isSome)) && decide (((e :: es).length + ([] : List Keyword).length + if ([] : List Keyword).isEmpty then 0 else 1) < 30)) = true := by rfl)
    (hli : (apos.endLine == pos.line) = true := by rfl)
    (he : backTo pos (starEach (e :: es) env) = (false, eval e env) :: backTo pos (starEach es env) := by rfl) (hany : (backTo pos (starEach es env)).any (·.1) = false := by rfl) :
    EvE C n env (.Call (.Attribute o "append" apos) (e :: es) [] pos) ⟨loc, mu₀⟩ Q := E_meth F.plainAttrs_list F.slot_list_append (by show builtinType _ = _; rw [builtinType_eq_fast]; kernel_rfl) h hab hnum hli he hany
theorem E_getC {loc : List (Str × PV)} {mu₀ : Mu} {o : Expr} {apos pos : Pos} {e : Expr} {es : List Expr}
    (h : EvE C n env o ⟨loc, mu₀⟩ (MethK C n env "dict" "dict.get" pos (e :: es) loc Q))
    (hab : attributeBase o "get" env (eval o env) = eval o env := by rfl)
    (hnum : (((backTo pos (starEach (e :: es) env)).all (!·.1) && (backToKw pos (keywordEach [] env)).all (·.1.isSome)) && decide (((e :: es).length + ([] : List Keyword).length + if ([] : List Keyword).isEmpty then 0 else 1) < 30)) = true := by rfl)
    (hli : (apos.endLine == pos.line) = true := by rfl)
    (he : backTo pos (starEach (e :: es) env) = (false, eval e env) :: backTo pos (starEach es env) := by rfl) (hany : (backTo pos (starEach es env)).any (·.1) = false := by rfl) :
    EvE C n env (.Call (.Attribute o "get" apos) (e :: es) [] pos) ⟨loc, mu₀⟩ Q := E_meth F.plainAttrs_dict F.slot_dict_get (by show builtinType _ = _; rw [builtinType_eq_fast]; kernel_rfl) h hab hnum hli he hany
end

/-! where the program's functions lie -/
theorem at_of {C : Cx} (X : Cok C) {f : Str} (e : (recQ f).isSome = true) : ∃ a, FnAt C f a := by
  obtain ⟨d, hd⟩ := Option.isSome_iff_exists.mp e
  obtain ⟨h1, o, h2, h3, _⟩ := X.fn f d hd
  exact ⟨_, h1, o, _, h2, h3⟩
end
section
theorem can_str {x : Str} (h : PyData.strOk x = true) : PyData.canLay0 (.str x) = true := by simp [PyData.canLay0, h]
theorem can_int {x : Int} : PyData.canLay0 (.int x) = true := by simp [PyData.canLay0]
theorem can_none : PyData.canLay0 .none = true := by simp [PyData.canLay0]
theorem can_tup {x : List PyData} (h : PyData.canLayAll0 x = true) : PyData.canLay0 (.tuple x) = true := by simp [PyData.canLay0, h]
theorem canAll_nil : PyData.canLayAll0 [] = true := by simp [PyData.canLayAll0]
theorem canAll_cons {x : PyData} {l : List PyData} (h : x.canLay0 = true) (h2 : PyData.canLayAll0 l = true) : PyData.canLayAll0 (x :: l) = true := by simp [PyData.canLayAll0, h, h2]
theorem canAll_of : ∀ {l : List PyData}, (∀ x ∈ l, x.canLay0 = true) → PyData.canLayAll0 l = true
  | [], _ => canAll_nil
  | _ :: _, h => canAll_cons (h _ List.mem_cons_self) (canAll_of fun x hx => h x (List.mem_cons_of_mem _ hx))
theorem shaped_str {x : Str} (h : PyData.strOk x = true) : SeqAt.shaped (.str x) = true := by simp [SeqAt.shaped, PyData.depth, can_str h]
theorem shaped_int {x : Int} : SeqAt.shaped (.int x) = true := by simp [SeqAt.shaped, PyData.depth, can_int]
theorem shaped_none : SeqAt.shaped .none = true := by simp [SeqAt.shaped, PyData.depth, can_none]
theorem shaped_of {d : PyData} (h : d.canLay0 = true) (h2 : d.depth ≤ 64) : SeqAt.shaped d = true := by simp [SeqAt.shaped, h, h2]
theorem shaped_nil : SeqAt.shaped (.tuple []) = true := by simp [SeqAt.shaped, PyData.depth, PyData.depthAll, PyData.canLay0, PyData.canLayAll0]
end
section
variable {C : Cx} {n : Nat} {env : Env} {Q : PV → Mu → Prop}
theorem E_dictX {loc : List (Str × PV)} {mu₀ : Mu} {keys : List (Option Expr)} {values : List Expr} {pos : Pos} (hs : keys.all (·.isSome) = true) (hl : keys.length = values.length) (hne : keys ≠ []) (h15 : keys.length ≤ 15)
    (h : EvD C n env pos keys values ⟨loc, mu₀⟩ fun ps mu => ∀ d, mu d = none → (d == sysModules) = false → Q (.ref d) (upd mu d (.dict (mergedP [] ps)))) : EvE C n env (.Dict keys values pos) ⟨loc, mu₀⟩ Q := by
  intro A s a r
  have g := Grow.push s { cls := .type "dict", data := .dict #[] } s.toks
  have r0 : R C env (s.heap.push { cls := .type "dict", data := .dict #[] }) ⟨loc, mu₀⟩ := r.step (s := s) (s' := { s with heap := s.heap.push { cls := .type "dict", data := .dict #[] } }) (g.rb r.rb) g.step
  have hd0 : (s.heap.push { cls := .type "dict", data := .dict #[] }).get? s.heap.objs.size = some { cls := .type "dict", data := .dict #[] } := Heap.get?_push_size _ rfl
  have hsys : (s.heap.objs.size == sysModules) = false := by
    obtain ⟨o, es, ep, ho, _⟩ := C.ok.g
    have := Heap.lt_size (r.rb.base _ _ ho)
    exact beq_false_of_ne fun q => by rw [q] at this; exact absurd this (by decide)
  refine wpAny_Dict_walk (knd := strKind C.prog C.w) hs hl hne h15 (wpAny_mono (h A { s with heap := s.heap.push { cls := .type "dict", data := .dict #[] } } a r0) ?_ fun _ _ x => x)
  rintro l s1 ⟨kvs, ps, mu1, hc, hd, rb, st, h1⟩
  have hlive := st.keep _ _ hd0 (RB.noSize r.rb)
  refine ⟨kvs, hc, ?_, fun h' hD sb => ?_⟩
  · exact ⟨_, #[], 0, hlive, ⟨rfl, rfl, rfl⟩, rfl, fun e he => by simp at he, .nil, .nil⟩
  · refine post_upd (o := .dict (mergedP [] ps)) (g.step.trans st) rb (noLive _) (st.fresh _ _ hd0 (RB.noSize r.rb)) (RB.noBase r.rb (noLive _)) sb (fun ob q => ?_) (fun tk => ⟨_, hD, ?_⟩) (h1 _ (st.fresh _ _ hd0 (RB.noSize r.rb)) hsys)
    · rw [hlive] at q; cases q; simp
    · exact DR.merged .nil (hd.mono tk)
end
section
set_option maxRecDepth 100000
def cat : List Str → Str
  | [] => Str.empty
  | x :: r => x ++ cat r
theorem cat_nil : cat [] = Str.empty := rfl
theorem cat_cons (x : Str) (r : List Str) : cat (x :: r) = x ++ cat r := rfl
theorem cat_app : ∀ a b, cat (a ++ b) = cat a ++ cat b
  | [], b => (Str.empty_append _).symm
  | x :: r, b => by rw [List.cons_append, cat_cons, cat_cons, cat_app r b, Str.append_assoc]
theorem str_empty : Str.ofString "" = Str.empty := by decide
theorem lit_1 : Str.ofString ", " = Str.ofString "," ++ Str.ofString " " := by decide +kernel
theorem lit_2 : Str.ofString ": " = Str.ofString ":" ++ Str.ofString " " := by decide +kernel
theorem lit_3 : Str.ofString "{ " = Str.ofString "{" ++ Str.ofString " " := by decide +kernel
theorem lit_4 : Str.ofString " }" = Str.ofString " " ++ Str.ofString "}" := by decide +kernel
theorem lit_5 : Str.ofString "{ }" = Str.ofString "{" ++ Str.ofString " " ++ Str.ofString "}" := by decide +kernel
theorem lit_6 : Str.ofString "disj " = Str.ofString "disj" ++ Str.ofString " " := by decide +kernel
theorem lit_7 : Str.ofString "abstract " = Str.ofString "abstract" ++ Str.ofString " " := by decide +kernel
theorem lit_8 : Str.ofString "sig " = Str.ofString "sig" ++ Str.ofString " " := by decide +kernel
theorem lit_9 : Str.ofString " extends " = Str.ofString " " ++ Str.ofString "extends" ++ Str.ofString " " := by decide +kernel
theorem lit_10 : Str.ofString " in " = Str.ofString " " ++ Str.ofString "in" ++ Str.ofString " " := by decide +kernel
theorem lit_11 : Str.ofString " + " = Str.ofString " " ++ Str.ofString "+" ++ Str.ofString " " := by decide +kernel
theorem lit_12 : Str.ofString " { " = Str.ofString " " ++ Str.ofString "{" ++ Str.ofString " " := by decide +kernel
theorem lit_13 : Str.ofString " { }" = Str.ofString " " ++ Str.ofString "{" ++ Str.ofString " " ++ Str.ofString "}" := by decide +kernel
theorem lit_14 : Str.ofString "exactly " = Str.ofString "exactly" ++ Str.ofString " " := by decide +kernel
theorem lit_15 : Str.ofString " for " = Str.ofString " " ++ Str.ofString "for" ++ Str.ofString " " := by decide +kernel
theorem lit_16 : Str.ofString " but " = Str.ofString " " ++ Str.ofString "but" ++ Str.ofString " " := by decide +kernel
theorem lit_17 : Str.ofString " expect " = Str.ofString " " ++ Str.ofString "expect" ++ Str.ofString " " := by decide +kernel
theorem lit_18 : Str.ofString "open " = Str.ofString "open" ++ Str.ofString " " := by decide +kernel
theorem lit_19 : Str.ofString " as " = Str.ofString " " ++ Str.ofString "as" ++ Str.ofString " " := by decide +kernel
theorem litn_0 : (Str.ofString "").length = 0 := by rfl
theorem litn_1 : (Str.ofString " ").length = 1 := by rfl
theorem litn_2 : (Str.ofString " + ").length = 3 := by rfl
theorem litn_3 : (Str.ofString " as ").length = 4 := by rfl
theorem litn_4 : (Str.ofString " but ").length = 5 := by rfl
theorem litn_5 : (Str.ofString " expect ").length = 8 := by rfl
theorem litn_6 : (Str.ofString " extends ").length = 9 := by rfl
theorem litn_7 : (Str.ofString " for ").length = 5 := by rfl
theorem litn_8 : (Str.ofString " in ").length = 4 := by rfl
theorem litn_9 : (Str.ofString " { ").length = 3 := by rfl
theorem litn_10 : (Str.ofString " { }").length = 4 := by rfl
theorem litn_11 : (Str.ofString " }").length = 2 := by rfl
theorem litn_12 : (Str.ofString "+").length = 1 := by rfl
theorem litn_13 : (Str.ofString ",").length = 1 := by rfl
theorem litn_14 : (Str.ofString ", ").length = 2 := by rfl
theorem litn_15 : (Str.ofString ":").length = 1 := by rfl
theorem litn_16 : (Str.ofString ": ").length = 2 := by rfl
theorem litn_17 : (Str.ofString "A").length = 1 := by rfl
theorem litn_18 : (Str.ofString "B").length = 1 := by rfl
theorem litn_19 : (Str.ofString "S").length = 1 := by rfl
theorem litn_20 : (Str.ofString "T").length = 1 := by rfl
theorem litn_21 : (Str.ofString "[").length = 1 := by rfl
theorem litn_22 : (Str.ofString "]").length = 1 := by rfl
theorem litn_23 : (Str.ofString "abstract ").length = 9 := by rfl
theorem litn_24 : (Str.ofString "assert").length = 6 := by rfl
theorem litn_25 : (Str.ofString "check").length = 5 := by rfl
theorem litn_26 : (Str.ofString "disj").length = 4 := by rfl
theorem litn_27 : (Str.ofString "disj ").length = 5 := by rfl
theorem litn_28 : (Str.ofString "exactly").length = 7 := by rfl
theorem litn_29 : (Str.ofString "exactly ").length = 8 := by rfl
theorem litn_30 : (Str.ofString "fact").length = 4 := by rfl
theorem litn_31 : (Str.ofString "fun").length = 3 := by rfl
theorem litn_32 : (Str.ofString "in").length = 2 := by rfl
theorem litn_33 : (Str.ofString "lone").length = 4 := by rfl
theorem litn_34 : (Str.ofString "no").length = 2 := by rfl
theorem litn_35 : (Str.ofString "o").length = 1 := by rfl
theorem litn_36 : (Str.ofString "one").length = 3 := by rfl
theorem litn_37 : (Str.ofString "open ").length = 5 := by rfl
theorem litn_38 : (Str.ofString "p").length = 1 := by rfl
theorem litn_39 : (Str.ofString "pred").length = 4 := by rfl
theorem litn_40 : (Str.ofString "q1").length = 2 := by rfl
theorem litn_41 : (Str.ofString "run").length = 3 := by rfl
theorem litn_42 : (Str.ofString "set").length = 3 := by rfl
theorem litn_43 : (Str.ofString "sig ").length = 4 := by rfl
theorem litn_44 : (Str.ofString "some").length = 4 := by rfl
theorem litn_45 : (Str.ofString "util/ordering").length = 13 := by rfl
theorem litn_46 : (Str.ofString "{").length = 1 := by rfl
theorem litn_47 : (Str.ofString "{ ").length = 2 := by rfl
theorem litn_48 : (Str.ofString "{ }").length = 3 := by rfl
theorem litn_49 : (Str.ofString "}").length = 1 := by rfl
end
section
local macro_rules | `(tactic| walk_at "len") => `(tactic| (exact Nat.le_of_ble_eq_true (by rfl)))
local macro_rules | `(tactic| walk_at "sub") => `(tactic| (repeat' (first | exact sub_nil | refine sub_cons (by rfl) ?_)))
local macro_rules | `(tactic| walk_at "E") => `(tactic| (first
  | ((fail_if_success fail_if_success (with_reducible show Ev _ _ _ (eval (.Name ..) _) ..)); (first | refine E_loc (by rfl) ?_ | refine E_gint (by assumption) (by rfl) ?_ | refine E_gstr (by assumption) (by rfl) ?_))
  | ((fail_if_success fail_if_success (with_reducible show Ev _ _ _ (eval (.Constant (.str _) ..) _) ..)); (refine E_str ?_))
  | ((fail_if_success fail_if_success (with_reducible show Ev _ _ _ (eval (.Constant (.int _) ..) _) ..)); (refine E_int ?_))
  | ((fail_if_success fail_if_success (with_reducible show Ev _ _ _ (eval (.Call _ _ _ _) _) _ _)); (first
    | ((fail_if_success fail_if_success (with_reducible show Ev _ _ _ (eval (.Call (.Name "len" _) _ _ _) _) _ _)); (refine E_len (by assumption) ?_))
    | ((fail_if_success fail_if_success (with_reducible show Ev _ _ _ (eval (.Call (.Name "tuple" _) _ _ _) _) _ _)); (refine E_tupC (by assumption) ?_))
    | ((fail_if_success fail_if_success (with_reducible show Ev _ _ _ (eval (.Call (.Name "str" _) _ _ _) _) _ _)); (refine E_strC (by assumption) ?_))
    | ((fail_if_success fail_if_success (with_reducible show Ev _ _ _ (eval (.Call (.Name "int" _) _ _ _) _) _ _)); (refine E_intC (by assumption) ?_))
    | ((fail_if_success fail_if_success (with_reducible show Ev _ _ _ (eval (.Call (.Name "min" _) _ _ _) _) _ _)); (refine E_minC (by assumption) ?_))
    | ((fail_if_success fail_if_success (with_reducible show Ev _ _ _ (eval (.Call (.Name "abs" _) _ _ _) _) _ _)); (refine E_absC (by assumption) ?_))
    | ((fail_if_success fail_if_success (with_reducible show Ev _ _ _ (eval (.Call (.Name "isinstance" _) _ _ _) _) _ _)); (refine E_isi (globN (by assumption) (by rfl)) (globN (by assumption) (by rfl)) ?_))
    | ((fail_if_success fail_if_success (with_reducible show Ev _ _ _ (eval (.Call (.Attribute _ "join" _) _ _ _) _) _ _)); (refine E_joinC ?_))
    | ((fail_if_success fail_if_success (with_reducible show Ev _ _ _ (eval (.Call (.Attribute _ "startswith" _) _ _ _) _) _ _)); (refine E_startsC ?_))
    | ((fail_if_success fail_if_success (with_reducible show Ev _ _ _ (eval (.Call (.Attribute _ "split" _) _ _ _) _) _ _)); (refine E_splitC ?_))
    | ((fail_if_success fail_if_success (with_reducible show Ev _ _ _ (eval (.Call (.Attribute _ "append" _) _ _ _) _) _ _)); (refine E_appendC ?_))
    | ((fail_if_success fail_if_success (with_reducible show Ev _ _ _ (eval (.Call (.Attribute _ "get" _) _ _ _) _) _ _)); (refine E_getC ?_))
    | (refine E_call (at_of (by assumption) (by rfl)) ?_)))
  | ((fail_if_success fail_if_success (with_reducible show EvL _ _ _ _ (_ :: _) ..)); (refine L_cons ?_))
  | ((fail_if_success fail_if_success (with_reducible show EvL _ _ _ _ [] ..)); (refine L_nil ?_))
  | ((fail_if_success fail_if_success (with_reducible show EvX _ _ _ (execs (_ :: _) _) ..)); (refine S_cons ?_))
  | ((fail_if_success fail_if_success (with_reducible show EvX _ _ _ (execs [] _) ..)); (refine S_nil ?_))
  | ((fail_if_success fail_if_success (with_reducible show EvX _ _ _ (exec (.Assign [.Name ..] ..) _) ..)); (refine S_assign ?_))
  | ((fail_if_success fail_if_success (with_reducible show EvX _ _ _ (exec (.Return (some _) _) _) ..)); (refine S_ret ?_))
  | ((fail_if_success fail_if_success (with_reducible show EvX _ _ _ (exec (.If ..) _) ..)); (refine S_if ?_))
  | ((fail_if_success fail_if_success (with_reducible show EvX _ _ _ (exec (.Expr ..) _) ..)); (refine S_expr ?_))
  | ((fail_if_success fail_if_success (with_reducible show EvX _ _ _ (exec (.Assign [.Subscript ..] ..) _) ..)); (refine S_set ?_))
  | ((fail_if_success fail_if_success (with_reducible show Ev _ _ _ (eval (.BinOp ..) _) ..)); (refine E_bin ?_))
  | ((fail_if_success fail_if_success (with_reducible show Ev _ _ _ (eval (.Subscript _ (.Slice ..) _) _) ..)); (refine E_slice ?_))
  | ((fail_if_success fail_if_success (with_reducible show Ev _ _ _ (eval (.Subscript ..) _) ..)); (refine E_sub ?_))
  | ((fail_if_success fail_if_success (with_reducible show Ev _ _ _ (eval (.IfExp ..) _) ..)); (refine E_if ?_))
  | ((fail_if_success fail_if_success (with_reducible show Ev _ _ _ (eval (.Compare ..) _) ..)); (refine E_cmp ?_))
  | ((fail_if_success fail_if_success (with_reducible show EvT _ _ _ (.Compare ..) ..)); (refine T_cmp ?_))
  | ((fail_if_success fail_if_success (with_reducible show EvT _ _ _ (.BoolOp ..) ..)); (refine T_op ?_))
  | ((fail_if_success fail_if_success (with_reducible show EvAll _ _ _ .And (_ :: _) ..)); (refine and_cons ?_))
  | ((fail_if_success fail_if_success (with_reducible show EvAll _ _ _ .And [] ..)); (refine and_nil ?_))
  | ((fail_if_success fail_if_success (with_reducible show EvAll _ _ _ .Or (_ :: _) ..)); (refine or_cons ?_))
  | ((fail_if_success fail_if_success (with_reducible show EvAll _ _ _ .Or [] ..)); (refine or_nil ?_))
  | ((fail_if_success fail_if_success (with_reducible show EvT ..)); (refine T_val ?_))
  | ((fail_if_success fail_if_success (with_reducible show Ev _ _ _ (eval (.Tuple ..) _) ..)); (refine E_tuple ?_))
  | ((fail_if_success fail_if_success (with_reducible show Ev _ _ _ (eval (.List ..) _) ..)); (refine E_list ?_))
  | ((fail_if_success fail_if_success (with_reducible show EvP _ _ _ none ..)); (refine P_none ?_))
  | ((fail_if_success fail_if_success (with_reducible show EvP _ _ _ (some _) ..)); (refine P_some ?_))
  | ((fail_if_success fail_if_success (with_reducible show Ev _ _ _ (eval (.Constant (.bool _) ..) _) ..)); (refine E_bool ?_))
  | ((fail_if_success fail_if_success (with_reducible show Ev _ _ _ (eval (.Constant .none ..) _) ..)); (refine E_none ?_))
  | ((fail_if_success fail_if_success (with_reducible show Ev _ _ _ (eval (.UnaryOp ..) _) ..)); (refine E_neg ?_))))
local macro_rules | `(tactic| walk_at "O") => `(tactic| (first
  | ((fail_if_success fail_if_success (with_reducible show Op2 _ _ _ (binaryOp .Add) (.dat (.int _)) (.dat (.int _)) _)); (refine O_add_int ?_))
  | ((fail_if_success fail_if_success (with_reducible show Op2 _ _ _ (binaryOp .Sub) (.dat (.int _)) (.dat (.int _)) _)); (refine O_sub_int ?_))
  | ((fail_if_success fail_if_success (with_reducible show Op2 _ _ _ (binaryOp .Mod) (.dat (.int _)) (.dat (.int _)) _)); (refine O_mod_int (by omega) ?_))
  | ((fail_if_success fail_if_success (with_reducible show Op2 _ _ _ (binaryOp .Add) (.dat (.tuple _)) (.dat (.tuple _)) _)); (refine O_add_tup (by walk_at "len") ?_))
  | ((fail_if_success fail_if_success (with_reducible show Op2 _ _ _ (compareOp .Lt) (.dat (.int _)) (.dat (.int _)) _)); (refine O_lt ?_))
  | ((fail_if_success fail_if_success (with_reducible show Op2 _ _ _ (compareOp .Gt) (.dat (.int _)) (.dat (.int _)) _)); (refine O_gt ?_))
  | ((fail_if_success fail_if_success (with_reducible show Op2 _ _ _ (compareOp .GtE) (.dat (.int _)) (.dat (.int _)) _)); (refine O_ge ?_))
  | ((fail_if_success fail_if_success (with_reducible show Op2 _ _ _ (compareOp .Is) (.dat _) (.dat .none) _)); (refine O_is_none ?_))
  | ((fail_if_success fail_if_success (with_reducible show Op2 _ _ _ (compareOp .IsNot) (.dat _) (.dat .none) _)); (refine O_isnot_none ?_))
  | ((fail_if_success fail_if_success (with_reducible show SubOk _ _ _ _ _ (.ref _) (.dat (.str _)) _)); (refine B_dict (by assumption) (by rfl) ?_))
  | ((fail_if_success fail_if_success (with_reducible show SubOk _ _ _ _ _ (.dat (.tuple _)) (.dat (.int _)) _)); (refine B_tup (by decide) (by decide) (by rfl) (by rfl) ?_))))
local macro_rules | `(tactic| walk_at "W") => `(tactic| (repeat (first | walk_at "E" | walk_at "O")))
local macro_rules | `(tactic| walk_at "ite") => `(tactic| (first | refine ite_t (by rfl) ?_ | refine ite_f (by rfl) ?_))
local macro_rules | `(tactic| walk_at "sz") => `(tactic| (rw [sizeLine_eq]; (try (simp only [Str.length_append, litn_0, litn_1, litn_2, litn_3, litn_4, litn_5, litn_6, litn_7, litn_8, litn_9, litn_10, litn_11, litn_12, litn_13, litn_14, litn_15, litn_16, litn_17, litn_18, litn_19, litn_20, litn_21, litn_22, litn_23, litn_24, litn_25, litn_26, litn_27, litn_28, litn_29, litn_30, litn_31, litn_32, litn_33, litn_34, litn_35, litn_36, litn_37, litn_38, litn_39, litn_40, litn_41, litn_42, litn_43, litn_44, litn_45, litn_46, litn_47, litn_48, litn_49])); omega))
local macro_rules | `(tactic| walk_at "cat") => `(tactic| (simp only [str_empty, lit_1, lit_2, lit_3, lit_4, lit_5, lit_6, lit_7, lit_8, lit_9, lit_10, lit_11, lit_12, lit_13, lit_14, lit_15, lit_16, lit_17, lit_18, lit_19, cat_app, cat_cons, cat_nil, Str.append_assoc, Str.append_empty, Str.empty_append]))
local macro_rules | `(tactic| walk_at "ok") => `(tactic| (first | assumption | decide +kernel | rfl))
local macro_rules | `(tactic| walk_at "sh") => `(tactic| (first | exact shaped_int | exact shaped_none | exact shaped_str (by walk_at "ok") | exact shaped_nil | assumption))
local macro_rules | `(tactic| walk_at "can") => `(tactic| (repeat' (first | assumption | exact canAll_nil | exact can_int | exact can_none | exact can_str (by walk_at "ok") | refine canAll_cons ?_ ?_ | refine can_tup ?_)))
local macro_rules | `(tactic| walk_at "Qo") => `(tactic| (first | (refine O_eq (by walk_at "sh") (by walk_at "sh") ⟨_, rfl, ?_⟩) | (refine O_ne (by walk_at "sh") (by walk_at "sh") ⟨_, rfl, ?_⟩) | (refine O_in_tup (by walk_at "can") (by walk_at "sh") ⟨_, rfl, ?_⟩) | (refine O_notin_tup (by walk_at "can") (by walk_at "sh") ⟨_, rfl, ?_⟩) | (refine ⟨_, rfl, ?_⟩)))
local macro_rules | `(tactic| walk_at "Q") => `(tactic| (walk_at "Qo"; walk_at "ite"))
local macro_rules | `(tactic| walk_at "T") => `(tactic| (refine ⟨rfl, by walk_at "len", ?_⟩; walk_at "Q"))
section
set_option maxRecDepth 100000
set_option maxHeartbeats 8000000
structure Tank (mu : Mu) (T D : Addr) (a : Int) : Prop where
  dict : mu T = some (.dict [("cells", .ref D), ("at", .dat (.int a))])
  cells : ∃ cs : List Int, mu D = some (.list (cs.map .int)) ∧ (∀ c ∈ cs, 0 ≤ c) ∧ cs.length ≤ 100
  ne : T ≠ D
  lo : 0 ≤ a
def Only (T : Addr) (mu mu' : Mu) : Prop := ∀ a, a ≠ T → mu' a = mu a
def Ext (T : Addr) (mu mu' : Mu) : Prop := ∀ a o, a ≠ T → mu a = some o → mu' a = some o
def ovr (mu : Mu) (T : Addr) (m : Mu) : Mu := fun a => if a = T then m T else mu a
theorem Ext.refl (T : Addr) (mu : Mu) : Ext T mu mu := fun _ _ _ e => e
theorem Ext.new {T B : Addr} {mu m : Mu} {o : MO} (x : Ext T mu m) (hB : m B = none) : Ext T mu (upd m B o) := fun a p ha e => by
  have := x a p ha e
  rw [upd_ne _ (fun q => by rw [q, hB] at this; cases this)]; exact this
theorem Ext.only {T : Addr} {mu m m' : Mu} (x : Ext T mu m) (y : Only T m m') : Ext T mu m' := fun a p ha e => (y a ha).trans (x a p ha e)
theorem Ext.ovr {T : Addr} {mu m : Mu} (x : Ext T mu m) : ∀ a o, Mine.ovr mu T m a = some o → m a = some o := fun a o e => by
  unfold Mine.ovr at e
  split at e
  · rename_i h; subst h; exact e
  · rename_i h; exact x a o h e
theorem only_ovr (T : Addr) (mu m : Mu) : Only T mu (ovr mu T m) := fun a ha => by simp [ovr, ha]
theorem Tank.new {mu : Mu} {T D B : Addr} {a : Int} {o : MO} (h : Tank mu T D a) (hB : mu B = none) : Tank (upd mu B o) T D a := by
  obtain ⟨cs, h1, h2, h3⟩ := h.cells
  refine ⟨?_, ⟨cs, ?_, h2, h3⟩, h.ne, h.lo⟩
  · rw [upd_ne _ fun q => by have := h.dict; rw [q, hB] at this; cases this]; exact h.dict
  · rw [upd_ne _ fun q => by rw [q, hB] at h1; cases h1]; exact h1
theorem Tank.ovr {mu m : Mu} {T D : Addr} {a b : Int} (h : Tank mu T D a) (k : Tank m T D b) : Tank (Mine.ovr mu T m) T D b := by
  obtain ⟨cs, h1, h2, h3⟩ := h.cells
  refine ⟨by simp [Mine.ovr, k.dict], ⟨cs, ?_, h2, h3⟩, h.ne, k.lo⟩
  simp [Mine.ovr, Ne.symm h.ne, h1]

theorem lot_ok {C : Cx} (X : Cok C) {n : Nat} {mu : Mu} {T D : Addr} {m a : Int} {K : PV → Mu → Prop} (hT : Tank mu T D a) (ha : a < 1000000) (hm : 0 < m)
    (h : ∀ i mu', 0 ≤ i → i < m → Only T mu mu' → Tank mu' T D (a + 1) → K (.dat (.int i)) mu') : FnOk C (n + 1) "_law_lot" mu [.ref T, .dat (.int m)] K := by
  refine enter X ["tank", "many"] (by rfl) (by rfl) (by rfl) (by rfl) rfl (bind2 rfl (fun _ _ => by rfl)) (by decide) (by decide) rfl rfl rfl ?_
  intro L
  obtain ⟨h1, ⟨cs, h2, h3, h5⟩, h4, h6⟩ := hT
  walk_at "W"
  refine ⟨_, _, _, rfl, rfl, h1, by walk_at "len", ?_⟩
  have e1 : storedP [(Str.ofString "cells", PV.ref D), (Str.ofString "at", PV.dat (.int a))] "at" (.dat (.int (a + 1))) = [(Str.ofString "cells", PV.ref D), (Str.ofString "at", PV.dat (.int (a + 1)))] := by rfl
  rw [e1]
  generalize hmu : upd mu T (.dict [(Str.ofString "cells", PV.ref D), (Str.ofString "at", PV.dat (.int (a + 1)))]) = mu1
  have k1 : mu1 T = some (.dict [(Str.ofString "cells", PV.ref D), (Str.ofString "at", PV.dat (.int (a + 1)))]) := by rw [← hmu]; exact upd_self _ _ _
  have k2 : mu1 D = some (.list (cs.map .int)) := by rw [← hmu, upd_ne _ (Ne.symm h4)]; exact h2
  have kO : Only T mu mu1 := fun b hb => by rw [← hmu]; exact upd_ne _ hb
  have kT : Tank mu1 T D (a + 1) := ⟨k1, ⟨cs, k2, h3, h5⟩, h4, by omega⟩
  have fin : ∀ i, 0 ≤ i → RetK K (.ret (.dat (.int (Int.fmod i m)))) ⟨[], mu1⟩ := fun i hi => ⟨mu1, fun _ _ e => e, h _ _ (Int.fmod_nonneg hi (by omega)) (Int.fmod_lt_of_pos _ hm) kO kT⟩
  clear h1
  walk_at "W"
  refine C_len_list k2 (by rw [List.length_map, sizeLine_eq]; omega) ?_
  walk_at "W"
  refine ⟨_, rfl, ?_⟩
  by_cases hlt : a < ((cs.map PyData.int).length : Int)
  · refine ite_t (decide_eq_true hlt) ?_
    walk_at "W"
    rw [List.length_map] at hlt
    have hl : a.toNat < cs.length := by omega
    refine B_list (d := .int cs[a.toNat]) k2 h6 (by omega) (by simp [hl]) ?_
    walk_at "W"
    exact fin _ (h3 _ (List.getElem_mem hl))
  · refine ite_f (decide_eq_false hlt) ?_
    walk_at "W"
    refine O_mul_int (by decide) ?_
    walk_at "W"
    refine O_mul_int (by omega) ?_
    walk_at "W"
    refine O_mul_int (by decide) ?_
    walk_at "W"
    refine fin _ ?_
    have : 0 ≤ 3 * a * a := Int.mul_nonneg (by omega) h6
    omega
end
section
set_option maxRecDepth 100000
set_option maxHeartbeats 8000000
/-! the items, as plain data -/
structure Sm where
  hd : Str
  tl : List Str
def nameD (k : Int) (x : Str) : PyData := .tuple [.str "name", .int k, .str x]
def smF (acc : PyData) : List Str → PyData
  | [] => acc
  | x :: r => smF (.tuple [.str "bin", .int 4, .str "+", acc, nameD 5 x]) r
def Sm.d (s : Sm) : PyData := smF (nameD 3 s.hd) s.tl
structure Sm.Ok (s : Sm) : Prop where
  hd : s.hd ∈ (["A", "B", "f", "x"] : List Str)
  tl : ∀ x ∈ s.tl, x ∈ (["A", "g", "C"] : List Str)
  len : s.tl.length ≤ 2
theorem smF_snoc (x : Str) : ∀ (l : List Str) (acc : PyData), smF acc (l ++ [x]) = .tuple [.str "bin", .int 4, .str "+", smF acc l, nameD 5 x]
  | [], _ => rfl
  | _ :: r, _ => smF_snoc x r _
inductive Cl where
  | un (g : Str) (s : Sm)
  | inn (a b : Sm)
def Cl.d : Cl → PyData
  | .un g s => .tuple [.str "un", .int 6, .str g, s.d]
  | .inn a b => .tuple [.str "bin", .int 7, .str "in", a.d, b.d]
def Cl.Ok : Cl → Prop
  | .un g s => g ∈ (["some", "no", "lone", "one"] : List Str) ∧ s.Ok
  | .inn a b => a.Ok ∧ b.Ok
structure Dc where
  disj : Bool
  k : Nat
  mult : Str
  s : Sm
def xyz : List PyData := [.str "x", .str "y", .str "z"]
def Dc.d (c : Dc) : PyData := .tuple [.int 8, .bool c.disj, .tuple (xyz.take c.k), .str c.mult, c.s.d]
structure Dc.Ok (ms : List Str) (c : Dc) : Prop where
  lo : 1 ≤ c.k
  hi : c.k ≤ 3
  mult : c.mult ∈ ms
  s : c.s.Ok

theorem one_of_ok {C : Cx} (X : Cok C) {n : Nat} {mu : Mu} {T D B : Addr} {a : Int} {ds : List PyData} {K : PV → Mu → Prop} (hT : Tank mu T D a) (ha : a < 1000000) (hB : mu B = some (.list ds)) (hd : 0 < ds.length) (hd2 : ds.length ≤ 100) (hBT : B ≠ T)
    (h : ∀ d mu', d ∈ ds → Only T mu mu' → Tank mu' T D (a + 1) → K (.dat d) mu') : FnOk C (n + 2) "_law_one_of" mu [.ref T, .ref B] K := by
  refine enter X ["tank", "some"] (by rfl) (by rfl) (by rfl) (by rfl) rfl (bind2 rfl (fun _ _ => by rfl)) (by decide) (by decide) rfl rfl rfl ?_
  intro L
  walk_at "W"
  refine C_len_list hB (by rw [sizeLine_eq]; omega) ?_
  walk_at "W"
  refine lot_ok X hT ha (by omega) fun i mu' h0 h1 hO hT' => ?_
  have hl : i.toNat < ds.length := by omega
  refine B_list (d := ds[i.toNat]) ((hO B hBT).trans hB) h0 (by omega) (by simp [hl]) ?_
  exact ⟨mu', fun _ _ e => e, h _ _ (List.getElem_mem hl) hO hT'⟩

theorem mem_strs {l : List Str} {d : PyData} (h : d ∈ l.map PyData.str) : ∃ x, x ∈ l ∧ d = .str x := by
  obtain ⟨x, h1, h2⟩ := List.mem_map.mp h
  exact ⟨x, h1, h2.symm⟩

theorem sum_ok {C : Cx} (X : Cok C) {n : Nat} {mu : Mu} {T D : Addr} {a : Int} {K : PV → Mu → Prop} (hT : Tank mu T D a) (ha : a + 4 < 1000000)
    (h : ∀ (s : Sm) b mu', s.Ok → b ≤ a + 4 → Only T mu mu' → Tank mu' T D b → K (.dat s.d) mu') : FnOk C (n + 3) "_law_sum" mu [.ref T] K := by
  refine enter X ["tank"] (by rfl) (by rfl) (by rfl) (by rfl) rfl (bind1 rfl (fun _ => by rfl)) (by decide) (by decide) rfl rfl rfl ?_
  intro L
  walk_at "W"
  refine ⟨rfl, by walk_at "len", fun B hB => ?_⟩
  walk_at "W"
  refine one_of_ok X (hT.new hB) (by omega) (upd_self _ _ _) (by decide) (by decide) (fun q => by rw [q, hT.dict] at hB; cases hB) fun d mu1 hd hO1 hT1 => ?_
  obtain ⟨x, hx, rfl⟩ := mem_strs (l := ["A", "B", "f", "x"]) hd
  have e1 : Ext T mu mu1 := ((Ext.refl T mu).new hB).only hO1
  walk_at "W"
  refine ⟨rfl, by walk_at "len", ?_⟩
  walk_at "W"
  refine S_for (fun items i S' => ∃ tl b, tl.length = i ∧ (∀ x ∈ tl, x ∈ (["A", "g", "C"] : List Str)) ∧ S'.loc = [(Str.ofString "found", .dat (smF (nameD 3 x) tl)), (Str.ofString "tank", .ref T)] ∧ Ext T mu S'.mu ∧ Tank S'.mu T D b ∧ b ≤ a + 2 + i ∧ items.length ≤ 2) ?_
  refine Src_range (globN X (by rfl)) ?_
  walk_at "W"
  refine lot_ok X hT1 (by omega) (by decide) fun i mu2 h0 h1 hO2 hT2 => ?_
  obtain ⟨k, rfl⟩ : ∃ k : Nat, i = k := ⟨i.toNat, by omega⟩
  have hlen : (List.map (fun (k : Nat) => PyData.int k) (List.range k)).length = k := by simp
  refine ⟨k, rfl, by omega, ⟨[], a + 1 + 1, rfl, by simp, rfl, e1.only hO2, hT2, by omega, by rw [hlen]; omega⟩, ?_, ?_⟩
  · rintro i d ⟨loc, m⟩ hi ⟨tl, b, htl, hmem, rfl, he, hTb, hb, hk⟩
    have hik : i < k := by
      have := (List.getElem?_eq_some_iff.mp hi).1
      rw [hlen] at this; exact this
    rw [hlen] at hk
    walk_at "W"
    refine ⟨rfl, by walk_at "len", fun B hB => ?_⟩
    walk_at "W"
    refine one_of_ok X (hTb.new hB) (by omega) (upd_self _ _ _) (by decide) (by decide) (fun q => by rw [q, hTb.dict] at hB; cases hB) fun d mu3 hd hO3 hT3 => ?_
    obtain ⟨y, hy, rfl⟩ := mem_strs (l := ["A", "g", "C"]) hd
    walk_at "W"
    refine ⟨rfl, by walk_at "len", ?_⟩
    walk_at "W"
    refine ⟨rfl, by walk_at "len", ?_⟩
    walk_at "W"
    refine ⟨⟨[(Str.ofString "found", .dat (smF (nameD 3 x) (tl ++ [y]))), (Str.ofString "tank", .ref T)], mu3⟩, ⟨?_, fun _ _ e => e⟩, tl ++ [y], b + 1, by simp [htl], ?_, rfl, (he.new hB).only hO3, hT3, by omega, by rw [hlen]; exact hk⟩
    · rw [smF_snoc]
      walk_at "sub"
    · intro z hz
      rcases List.mem_append.mp hz with hz | hz
      · exact hmem z hz
      · rw [List.mem_singleton.mp hz]; exact hy
  · rintro ⟨loc, m⟩ ⟨tl, b, htl, hmem, rfl, he, hTb, hb, hk⟩
    rw [hlen] at hk
    walk_at "W"
    exact ⟨ovr mu T m, he.ovr, h ⟨x, tl⟩ b _ ⟨hx, hmem, by show tl.length ≤ 2; omega⟩ (by omega) (only_ovr _ _ _) (hT.ovr hTb)⟩
end
section
set_option maxRecDepth 100000
set_option maxHeartbeats 8000000
theorem Ext.set {T F : Addr} {mu m : Mu} {o : MO} (x : Ext T mu m) (hF : mu F = none) : Ext T mu (upd m F o) := fun a p ha e => by
  rw [upd_ne _ (fun q => by rw [q, hF] at e; cases e)]; exact x a p ha e
theorem Tank.set {mu : Mu} {T D F : Addr} {a : Int} {o : MO} (h : Tank mu T D a) (h1 : F ≠ T) (h2 : F ≠ D) : Tank (upd mu F o) T D a := by
  obtain ⟨cs, q1, q2, q3⟩ := h.cells
  exact ⟨by rw [upd_ne _ (Ne.symm h1)]; exact h.dict, ⟨cs, by rw [upd_ne _ (Ne.symm h2)]; exact q1, q2, q3⟩, h.ne, h.lo⟩
theorem Tank.neT {mu : Mu} {T D F : Addr} {a : Int} (h : Tank mu T D a) (hF : mu F = none) : F ≠ T := fun q => by rw [q, h.dict] at hF; cases hF
theorem Tank.neD {mu : Mu} {T D F : Addr} {a : Int} (h : Tank mu T D a) (hF : mu F = none) : F ≠ D := fun q => by
  obtain ⟨cs, q1, _⟩ := h.cells
  rw [q, q1] at hF; cases hF
theorem len_range_map (k : Nat) : (List.map (fun (k : Nat) => PyData.int k) (List.range k)).length = k := by simp
theorem lt_of_get {α : Type} {l : List α} {i : Nat} {d : α} (h : l[i]? = some d) : i < l.length := (List.getElem?_eq_some_iff.mp h).1

theorem claims_ok {C : Cx} (X : Cok C) {n : Nat} {mu : Mu} {T D : Addr} {a : Int} {K : PV → Mu → Prop} (hT : Tank mu T D a) (ha : a + 20 < 1000000)
    (h : ∀ (cs : List Cl) b mu', (∀ c ∈ cs, c.Ok) → cs.length ≤ 2 → b ≤ a + 20 → Only T mu mu' → Tank mu' T D b → K (.dat (.tuple (cs.map Cl.d))) mu') : FnOk C (n + 4) "_law_claims" mu [.ref T, .dat (.int 0)] K := by
  refine enter X ["tank", "fewest"] (by rfl) (by rfl) (by rfl) (by rfl) rfl (bind2 rfl (fun _ _ => by rfl)) (by decide) (by decide) rfl rfl rfl ?_
  intro L
  walk_at "W"
  refine ⟨rfl, by walk_at "len", fun F hF => ?_⟩
  have hT0 := hT.set (o := .list []) (hT.neT hF) (hT.neD hF)
  have hFT := hT.neT hF
  have hFD := hT.neD hF
  walk_at "W"
  refine S_for (fun items i S' => ∃ (cs : List Cl) (b : Int), cs.length = i ∧ (∀ c ∈ cs, Cl.Ok c) ∧ S'.loc = [(Str.ofString "found", .ref F), (Str.ofString "fewest", .dat (.int 0)), (Str.ofString "tank", .ref T)] ∧ S'.mu F = some (.list (cs.map Cl.d)) ∧ Ext T mu S'.mu ∧ Tank S'.mu T D b ∧ b ≤ a + 1 + 9 * i ∧ items.length ≤ 2) ?_
  refine Src_range (globN X (by rfl)) ?_
  walk_at "W"
  refine lot_ok X hT0 (by omega) (by decide) fun i mu2 h0 h1 hO2 hT2 => ?_
  walk_at "W"
  obtain ⟨k, rfl⟩ : ∃ k : Nat, i = k := ⟨i.toNat, by omega⟩
  have e2 : Ext T mu mu2 := ((Ext.refl T mu).new hF).only hO2
  refine ⟨k, by rw [Int.zero_add], by omega, ⟨[], a + 1, rfl, by simp, rfl, (hO2 F hFT).trans (upd_self _ _ _), e2, hT2, by omega, by rw [len_range_map]; omega⟩, ?_, ?_⟩
  · rintro i d ⟨loc, m⟩ hi ⟨cs, b, hcs, hok, rfl, hFm, he, hTb, hb, hk⟩
    have hik := lt_of_get hi
    rw [len_range_map] at hik hk
    have hFm : m F = some (.list (cs.map Cl.d)) := hFm
    have hTb : Tank m T D b := hTb
    walk_at "W"
    refine lot_ok X hTb (by omega) (by decide) fun j m1 j0 j1 hO1 hT1 => ?_
    have hF1 : m1 F = some (.list (cs.map Cl.d)) := (hO1 F hFT).trans hFm
    have he1 := he.only hO1
    walk_at "W"
    refine O_eq (by rfl) (by rfl) ⟨_, rfl, ?_⟩
    refine ite_cs (fun _ => ?_) (fun _ => ?_)
    · walk_at "W"
      refine ⟨Ty_list hF1, ?_⟩
      walk_at "W"
      refine ⟨rfl, by walk_at "len", fun B hB => ?_⟩
      walk_at "W"
      refine one_of_ok X (hT1.new hB) (by omega) (upd_self _ _ _) (by decide) (by decide) ((hT1.neT hB)) fun d m2 hd hO2 hT2 => ?_
      obtain ⟨g, hg, rfl⟩ := mem_strs (l := ["some", "no", "lone", "one"]) hd
      have hF2 : m2 F = some (.list (cs.map Cl.d)) := (hO2 F hFT).trans (by rw [upd_ne _ fun q => by rw [← q, hF1] at hB; cases hB]; exact hF1)
      have he2 := (he1.new hB).only hO2
      walk_at "W"
      refine sum_ok X hT2 (by omega) fun s b' m3 hs hb' hO3 hT3 => ?_
      have hF3 : m3 F = some (.list (cs.map Cl.d)) := (hO3 F hFT).trans hF2
      have he3 := he2.only hO3
      walk_at "W"
      refine ⟨rfl, by walk_at "len", ?_⟩
      walk_at "W"
      refine C_append hF3 (by rw [List.length_map, hcs, sizeLine_eq]; omega) ⟨rfl, ?_⟩
      walk_at "W"
      refine ⟨⟨[(Str.ofString "found", .ref F), (Str.ofString "fewest", .dat (.int 0)), (Str.ofString "tank", .ref T)], upd m3 F _⟩, ⟨by walk_at "sub", fun _ _ e => e⟩, cs ++ [.un g s], b', by simp [hcs], ?_, rfl, ?_, he3.set hF, hT3.set hFT hFD, by omega, by rw [len_range_map]; exact hk⟩
      · intro c hc
        rcases List.mem_append.mp hc with hc | hc
        · exact hok c hc
        · rw [List.mem_singleton.mp hc]; exact ⟨hg, hs⟩
      · show upd m3 F _ F = _
        rw [upd_self, List.map_append]; rfl
    · walk_at "W"
      refine ⟨Ty_list hF1, ?_⟩
      walk_at "W"
      refine sum_ok X hT1 (by omega) fun s b' m2 hs hb' hO2 hT2 => ?_
      have hF2 : m2 F = some (.list (cs.map Cl.d)) := (hO2 F hFT).trans hF1
      have he2 := he1.only hO2
      walk_at "W"
      refine sum_ok X hT2 (by omega) fun s2 b2 m3 hs2 hb2 hO3 hT3 => ?_
      have hF3 : m3 F = some (.list (cs.map Cl.d)) := (hO3 F hFT).trans hF2
      have he3 := he2.only hO3
      walk_at "W"
      refine ⟨rfl, by walk_at "len", ?_⟩
      walk_at "W"
      refine C_append hF3 (by rw [List.length_map, hcs, sizeLine_eq]; omega) ⟨rfl, ?_⟩
      walk_at "W"
      refine ⟨⟨[(Str.ofString "found", .ref F), (Str.ofString "fewest", .dat (.int 0)), (Str.ofString "tank", .ref T)], upd m3 F _⟩, ⟨by walk_at "sub", fun _ _ e => e⟩, cs ++ [.inn s s2], b2, by simp [hcs], ?_, rfl, ?_, he3.set hF, hT3.set hFT hFD, by omega, by rw [len_range_map]; exact hk⟩
      · intro c hc
        rcases List.mem_append.mp hc with hc | hc
        · exact hok c hc
        · rw [List.mem_singleton.mp hc]; exact ⟨hs, hs2⟩
      · show upd m3 F _ F = _
        rw [upd_self, List.map_append]; rfl
  · rintro ⟨loc, m⟩ ⟨cs, b, hcs, hok, rfl, hFm, he, hTb, hb, hk⟩
    rw [len_range_map] at hk hcs hb
    have hFm : m F = some (.list (cs.map Cl.d)) := hFm
    walk_at "W"
    refine C_tuple hFm (by rw [List.length_map, hcs, sizeLine_eq]; omega) ?_
    exact ⟨ovr mu T m, he.ovr, h cs b _ hok (by omega) (by omega) (only_ovr _ _ _) (hT.ovr hTb)⟩
end
section
set_option maxRecDepth 100000
set_option maxHeartbeats 8000000
theorem decls_ok {C : Cx} (X : Cok C) {n : Nat} {mu : Mu} {T D B : Addr} {a : Int} {ms : List Str} {K : PV → Mu → Prop} (hT : Tank mu T D a) (ha : a + 20 < 1000000) (hB : mu B = some (.list (ms.map .str))) (hm0 : 0 < ms.length) (hm1 : ms.length ≤ 100)
    (h : ∀ (cs : List Dc) b mu', (∀ c ∈ cs, c.Ok ms) → cs.length ≤ 2 → b ≤ a + 20 → Only T mu mu' → Tank mu' T D b → K (.dat (.tuple (cs.map Dc.d))) mu') : FnOk C (n + 4) "_law_decls" mu [.ref T, .ref B] K := by
  refine enter X ["tank", "counts"] (by rfl) (by rfl) (by rfl) (by rfl) rfl (bind2 rfl (fun _ _ => by rfl)) (by decide) (by decide) rfl rfl rfl ?_
  intro L
  walk_at "W"
  refine ⟨rfl, by walk_at "len", fun F hF => ?_⟩
  have hT0 := hT.set (o := .list []) (hT.neT hF) (hT.neD hF)
  have hFT := hT.neT hF
  have hFD := hT.neD hF
  have hBT : B ≠ T := fun q => by rw [q, hT.dict] at hB; cases hB
  walk_at "W"
  refine S_for (fun items i S' => ∃ (cs : List Dc) (b : Int), cs.length = i ∧ (∀ c ∈ cs, c.Ok ms) ∧ S'.loc = [(Str.ofString "found", .ref F), (Str.ofString "counts", .ref B), (Str.ofString "tank", .ref T)] ∧ S'.mu F = some (.list (cs.map Dc.d)) ∧ Ext T mu S'.mu ∧ Tank S'.mu T D b ∧ b ≤ a + 1 + 7 * i ∧ items.length ≤ 2) ?_
  refine Src_range (globN X (by rfl)) ?_
  walk_at "W"
  refine lot_ok X hT0 (by omega) (by decide) fun i mu2 h0 h1 hO2 hT2 => ?_
  obtain ⟨k, rfl⟩ : ∃ k : Nat, i = k := ⟨i.toNat, by omega⟩
  have e2 : Ext T mu mu2 := ((Ext.refl T mu).new hF).only hO2
  refine ⟨k, rfl, by omega, ⟨[], a + 1, rfl, by simp, rfl, (hO2 F hFT).trans (upd_self _ _ _), e2, hT2, by omega, by rw [len_range_map]; omega⟩, ?_, ?_⟩
  · rintro i d ⟨loc, m⟩ hi ⟨cs, b, hcs, hok, rfl, hFm, he, hTb, hb, hk⟩
    have hik := lt_of_get hi
    rw [len_range_map] at hik hk
    have hFm : m F = some (.list (cs.map Dc.d)) := hFm
    have hTb : Tank m T D b := hTb
    walk_at "W"
    refine ⟨rfl, by walk_at "len", ?_⟩
    walk_at "W"
    refine lot_ok X hTb (by omega) (by decide) fun j m1 j0 j1 hO1 hT1 => ?_
    obtain ⟨j, rfl⟩ : ∃ k : Nat, j = k := ⟨j.toNat, by omega⟩
    have hF1 : m1 F = some (.list (cs.map Dc.d)) := (hO1 F hFT).trans hFm
    have he1 := he.only hO1
    walk_at "W"
    refine ⟨_, rfl, Z_tup 0 (1 + j) (by walk_at "len") (.inl ⟨rfl, rfl⟩) (.inr ⟨1 + j, by rw [Int.natCast_add]; rfl, ?_⟩) ?_⟩
    · show 1 + j = min (1 + j) 3
      omega
    show (fun p mu => _) (PV.dat (.tuple (xyz.take (1 + j)))) m1
    walk_at "W"
    refine ⟨Ty_list hF1, ?_⟩
    walk_at "W"
    refine lot_ok X hT1 (by omega) (by decide) fun q m2 q0 q1 hO2 hT2 => ?_
    have hF2 : m2 F = some (.list (cs.map Dc.d)) := (hO2 F hFT).trans hF1
    have he2 := he1.only hO2
    walk_at "W"
    refine O_eq (by rfl) (by rfl) ?_
    generalize PyData.eqv (.int q) (.int 1) = dj
    walk_at "W"
    refine one_of_ok X hT2 (by omega) (he2 B _ hBT hB) (by rw [List.length_map]; exact hm0) (by rw [List.length_map]; exact hm1) hBT fun d m3 hd hO3 hT3 => ?_
    obtain ⟨g, hg, rfl⟩ := mem_strs hd
    have hF3 : m3 F = some (.list (cs.map Dc.d)) := (hO3 F hFT).trans hF2
    have he3 := he2.only hO3
    walk_at "W"
    refine sum_ok X hT3 (by omega) fun s b' m4 hs hb' hO4 hT4 => ?_
    have hF4 : m4 F = some (.list (cs.map Dc.d)) := (hO4 F hFT).trans hF3
    have he4 := he3.only hO4
    walk_at "W"
    refine ⟨rfl, by walk_at "len", ?_⟩
    walk_at "W"
    refine C_append hF4 (by rw [List.length_map, hcs, sizeLine_eq]; omega) ⟨rfl, ?_⟩
    walk_at "W"
    refine ⟨⟨[(Str.ofString "found", .ref F), (Str.ofString "counts", .ref B), (Str.ofString "tank", .ref T)], upd m4 F _⟩, ⟨by walk_at "sub", fun _ _ e => e⟩, cs ++ [⟨dj, 1 + j, g, s⟩], b', by simp [hcs], ?_, rfl, ?_, he4.set hF, hT4.set hFT hFD, by omega, by rw [len_range_map]; exact hk⟩
    · intro c hc
      rcases List.mem_append.mp hc with hc | hc
      · exact hok c hc
      · rw [List.mem_singleton.mp hc]; exact ⟨by show 1 ≤ 1 + j; omega, by show 1 + j ≤ 3; omega, hg, hs⟩
    · show upd m4 F _ F = _
      rw [upd_self, List.map_append]; rfl
  · rintro ⟨loc, m⟩ ⟨cs, b, hcs, hok, rfl, hFm, he, hTb, hb, hk⟩
    rw [len_range_map] at hk hcs hb
    have hFm : m F = some (.list (cs.map Dc.d)) := hFm
    walk_at "W"
    refine C_tuple hFm (by rw [List.length_map, hcs, sizeLine_eq]; omega) ?_
    exact ⟨ovr mu T m, he.ovr, h cs b _ hok (by omega) (by omega) (only_ovr _ _ _) (hT.ovr hTb)⟩
end
section
set_option maxRecDepth 100000
set_option maxHeartbeats 8000000
structure Nu where
  ex : Bool
  num : Int
  sig : Str
def Nu.d (u : Nu) : PyData := .tuple [.bool u.ex, .int u.num, .str u.sig]
structure Nu.Ok (u : Nu) : Prop where
  lo : 0 ≤ u.num
  hi : u.num < 12
  sig : u.sig ∈ (["A", "B"] : List Str)
structure Sc where
  dflt : Int
  nums : List Nu
def Sc.d (s : Sc) : PyData := .tuple [.int s.dflt, .tuple (s.nums.map Nu.d)]
structure Sc.Ok (s : Sc) : Prop where
  lo : -1 ≤ s.dflt
  hi : s.dflt ≤ 3
  nums : ∀ u ∈ s.nums, u.Ok
  len : s.nums.length ≤ 2

theorem scope_ok {C : Cx} (X : Cok C) {n : Nat} {mu : Mu} {T D : Addr} {a : Int} {K : PV → Mu → Prop} (hT : Tank mu T D a) (ha : a + 20 < 1000000)
    (h : ∀ (s : Sc) b mu', s.Ok → b ≤ a + 20 → Only T mu mu' → Tank mu' T D b → K (.dat s.d) mu') : FnOk C (n + 3) "_law_scope" mu [.ref T] K := by
  refine enterC X (fun L => upd mu (L + 1) (.cell (some (.ref T)))) (by rfl) (by rfl) (by rfl) rfl (fun _ => by rfl) (by rfl) (fun _ => by rfl) rfl rfl rfl rfl (fun L b m e => ?_) (fun L b hb => upd_ne _ (Nat.ne_of_lt (Nat.lt_succ_of_lt hb))) ?_
  · unfold upd at e
    split at e
    · rename_i q; cases e; exact .inr ⟨"tank", by rw [q]; rfl, rfl⟩
    · exact .inl e
  intro L hfr
  have hc : mu (L + 1) = none := hfr _ (Nat.le_succ L)
  have hcT := hT.neT hc
  have hcD := hT.neD hc
  have hT0 := hT.set (o := .cell (some (.ref T))) hcT hcD
  have e0 : Ext T mu (upd mu (L + 1) (.cell (some (.ref T)))) := (Ext.refl T mu).new hc
  have hc0 : upd mu (L + 1) (.cell (some (.ref T))) (L + 1) = some (.cell (some (.ref T))) := upd_self _ _ _
  generalize upd mu (L + 1) (.cell (some (.ref T))) = m0 at hT0 e0 hc0 ⊢
  walk_at "W"
  refine E_comp [(Str.ofString "tank", L + 1)] (fun items i acc m => ∃ (us : List Nu) (b : Int), acc = us.map Nu.d ∧ us.length = i ∧ (∀ u ∈ us, u.Ok) ∧ Ext T mu m ∧ m (L + 1) = some (.cell (some (.ref T))) ∧ Tank m T D b ∧ b ≤ a + 1 + 3 * i ∧ items.length ≤ 2) ?_
  refine Src_range (globN X (by rfl)) ?_
  walk_at "W"
  refine E_cell (by rfl) hc0 ?_
  walk_at "W"
  refine lot_ok X hT0 (by omega) (by decide) fun i m1 i0 i1 hO1 hT1 => ?_
  have e1 := e0.only hO1
  have hc1 : m1 (L + 1) = some (.cell (some (.ref T))) := (hO1 _ hcT).trans hc0
  obtain ⟨k, rfl⟩ : ∃ k : Nat, i = k := ⟨i.toNat, by omega⟩
  refine ⟨k, rfl, by omega, ?_, ⟨[], a + 1, rfl, rfl, by simp, e1, hc1, hT1, by omega, by rw [len_range_map]; omega⟩, ?_, ?_, ?_⟩
  · rw [len_range_map, sizeLine_eq]; omega
  · rintro i acc m ⟨us, b, rfl, hus, _⟩
    rw [List.length_map, hus]; exact Nat.le_refl _
  · rintro i d acc m L' hi ⟨us, b, rfl, hus, hok, he, hcm, hTb, hb, hk⟩
    have hik := lt_of_get hi
    rw [len_range_map] at hik hk
    refine As_name ?_
    show EvE _ _ _ _ _ _
    walk_at "W"
    refine E_cell (by rfl) hcm ?_
    walk_at "W"
    refine lot_ok X hTb (by omega) (by decide) fun q m1 q0 q1 hO1 hT1 => ?_
    have he1 := he.only hO1
    have hc1 : m1 (L + 1) = some (.cell (some (.ref T))) := (hO1 _ hcT).trans hcm
    walk_at "W"
    refine O_eq (by rfl) (by rfl) ?_
    generalize PyData.eqv (.int q) (.int 1) = ex
    walk_at "W"
    refine E_cell (by rfl) hc1 ?_
    walk_at "W"
    refine lot_ok X hT1 (by omega) (by decide) fun q m2 q0 q1 hO2 hT2 => ?_
    have he2 := he1.only hO2
    have hc2 : m2 (L + 1) = some (.cell (some (.ref T))) := (hO2 _ hcT).trans hc1
    walk_at "W"
    refine E_cell (by rfl) hc2 ?_
    walk_at "W"
    refine ⟨rfl, by walk_at "len", fun B hB => ?_⟩
    walk_at "W"
    have hc3 : upd m2 B (.list (List.map PV.toD [PV.dat (.str "A"), PV.dat (.str "B")])) (L + 1) = some (.cell (some (.ref T))) := by
      rw [upd_ne _ fun q => by rw [← q, hc2] at hB; cases hB]; exact hc2
    refine one_of_ok X (hT2.new hB) (by omega) (upd_self _ _ _) (by decide) (by decide) (hT2.neT hB) fun d m3 hd hO3 hT3 => ?_
    obtain ⟨g, hg, rfl⟩ := mem_strs (l := ["A", "B"]) hd
    walk_at "W"
    refine ⟨rfl, by walk_at "len", _, rfl, us ++ [⟨ex, q, g⟩], b + 1 + 1 + 1, by rw [List.map_append]; rfl, by simp [hus], ?_, (he2.new hB).only hO3, (hO3 _ hcT).trans hc3, hT3, by omega, by rw [len_range_map]; exact hk⟩
    intro u hu
    rcases List.mem_append.mp hu with hu | hu
    · exact hok u hu
    · rw [List.mem_singleton.mp hu]; exact ⟨q0, q1, hg⟩
  · rintro acc m ⟨us, b, rfl, hus, hok, he, hcm, hTb, hb, hk⟩ F hF
    rw [len_range_map] at hk hus hb
    have hFT := hTb.neT hF
    walk_at "W"
    refine C_tuple (upd_self _ _ _) (by rw [List.length_map, hus, sizeLine_eq]; omega) ?_
    walk_at "W"
    refine E_cell (c := L + 1) (by rfl) (by rw [upd_ne _ fun q => by rw [← q, hcm] at hF; cases hF]; exact hcm) ?_
    walk_at "W"
    refine lot_ok X (hTb.new hF) (by omega) (by decide) fun q m1 q0 q1 hO1 hT1 => ?_
    have he1 := (he.new hF).only hO1
    walk_at "W"
    refine ⟨rfl, by walk_at "len", ?_⟩
    exact ⟨ovr mu T m1, he1.ovr, h ⟨q - 1, us⟩ (b + 1) _ ⟨by show -1 ≤ q - 1; omega, by show q - 1 ≤ 3; omega, hok, by show us.length ≤ 2; omega⟩ (by omega) (only_ovr _ _ _) (hT.ovr hT1)⟩
end
section
set_option maxRecDepth 100000
set_option maxHeartbeats 8000000
def AB : List PyData := [.str "A", .str "B"]
def SS : List PyData := [.str "S", .str "T"]
inductive It where
  | opn (k : Nat) (as : Str)
  | sig (k : Nat) (abs : Bool) (mult parent : Str) (sup : Nat) (fields : List Dc) (facts : List Cl)
  | fa (kind name : Str) (cs : List Cl)
  | prd (name : Str) (ps : List Dc) (cs : List Cl)
  | fn (name : Str) (ps : List Dc) (mult : Str) (r b : Sm)
  | cmd (kind name : Str) (nodes : Option (List Cl)) (sc : Sc) (ex : Int)
def clsD (cs : List Cl) : PyData := .tuple (cs.map Cl.d)
def dcsD (cs : List Dc) : PyData := .tuple (cs.map Dc.d)
def nodesD : Option (List Cl) → PyData
  | none => .none
  | some cs => clsD cs
def It.d : It → PyData
  | .opn k as => .tuple [.str "open", .int 9, .str "util/ordering", .tuple (AB.take k), .str as]
  | .sig k abs mult parent sup fields facts => .tuple [.str "sig", .int 9, .tuple (SS.take k), .bool abs, .str mult, .str parent, .tuple (AB.take sup), dcsD fields, clsD facts]
  | .fa kind name cs => .tuple [.str kind, .int 9, .str name, clsD cs]
  | .prd name ps cs => .tuple [.str "pred", .int 9, .str name, dcsD ps, clsD cs]
  | .fn name ps mult r b => .tuple [.str "fun", .int 9, .str name, dcsD ps, .str mult, r.d, b.d]
  | .cmd kind name nodes sc ex => .tuple [.str kind, .int 9, .str name, nodesD nodes, sc.d, .int ex]
def Cls (cs : List Cl) : Prop := (∀ c ∈ cs, c.Ok) ∧ cs.length ≤ 2
def Dcs (ms : List Str) (cs : List Dc) : Prop := (∀ c ∈ cs, c.Ok ms) ∧ cs.length ≤ 2
def It.Ok : It → Prop
  | .opn k as => k ≤ 2 ∧ as ∈ (["", "o"] : List Str)
  | .sig k _ mult parent sup fields facts => 1 ≤ k ∧ k ≤ 2 ∧ mult ∈ (["", "one", "lone", "some"] : List Str) ∧ ((parent = "" ∧ sup ≤ 2) ∨ (parent = "A" ∧ sup = 0)) ∧ Dcs ["", "one", "lone", "some", "set"] fields ∧ Cls facts
  | .fa kind name cs => kind ∈ (["fact", "assert"] : List Str) ∧ name ∈ (["p", "q1", ""] : List Str) ∧ Cls cs
  | .prd name ps cs => name ∈ (["p", "q1"] : List Str) ∧ Dcs ["", "one", "set"] ps ∧ Cls cs
  | .fn name ps mult r b => name ∈ (["p", "q1"] : List Str) ∧ Dcs ["", "lone"] ps ∧ mult ∈ (["", "one", "set"] : List Str) ∧ r.Ok ∧ b.Ok
  | .cmd kind name nodes sc ex => kind ∈ (["run", "check"] : List Str) ∧ ((nodes = none ∧ name ∈ (["p", "q1"] : List Str)) ∨ ∃ cs, nodes = some cs ∧ Cls cs ∧ name = "") ∧ sc.Ok ∧ -1 ≤ ex ∧ ex ≤ 1

theorem kinds_fa : ∀ x ∈ (["fact", "assert"] : List Str), PyData.strOk x = true ∧ PyData.eqv (.str x) (.str "open") = false ∧ PyData.eqv (.str x) (.str "sig") = false ∧ (([.str "fact", .str "assert"] : List PyData).any fun y => PyData.eqv y (.str x)) = true := by
  intro x hx
  simp only [List.mem_cons, List.not_mem_nil, or_false] at hx
  rcases hx with rfl | rfl <;> exact ⟨by decide +kernel, rfl, rfl, rfl⟩
theorem kinds_cmd : ∀ x ∈ (["run", "check"] : List Str), PyData.strOk x = true ∧ PyData.eqv (.str x) (.str "open") = false ∧ PyData.eqv (.str x) (.str "sig") = false ∧ (([.str "fact", .str "assert"] : List PyData).any fun y => PyData.eqv y (.str x)) = false ∧ PyData.eqv (.str x) (.str "pred") = false ∧ PyData.eqv (.str x) (.str "fun") = false := by
  intro x hx
  simp only [List.mem_cons, List.not_mem_nil, or_false] at hx
  rcases hx with rfl | rfl <;> exact ⟨by decide +kernel, rfl, rfl, rfl, rfl, rfl⟩

theorem item_ok {C : Cx} (X : Cok C) {n : Nat} {mu : Mu} {T D : Addr} {a : Int} {K : PV → Mu → Prop} (hT : Tank mu T D a) (ha : a + 100 < 1000000)
    (h : ∀ (it : It) b mu', it.Ok → b ≤ a + 80 → Only T mu mu' → Tank mu' T D b → K (.dat it.d) mu') : FnOk C (n + 5) "_law_item" mu [.ref T] K := by
  refine enter X ["tank"] (by rfl) (by rfl) (by rfl) (by rfl) rfl (bind1 rfl (fun _ => by rfl)) (by decide) (by decide) rfl rfl rfl ?_
  intro L
  walk_at "W"
  refine ⟨rfl, by walk_at "len", fun B hB => ?_⟩
  walk_at "W"
  refine one_of_ok X (hT.new hB) (by omega) (upd_self _ _ _) (by decide) (by decide) (hT.neT hB) fun d m1 hd hO1 hT1 => ?_
  obtain ⟨kind, hkind, rfl⟩ := mem_strs (l := ["open", "sig", "fact", "assert", "pred", "fun", "run", "check"]) hd
  have e1 := ((Ext.refl T mu).new hB).only hO1
  clear hO1 hd hB B
  walk_at "W"
  refine ⟨rfl, by walk_at "len", fun B hB => ?_⟩
  walk_at "W"
  refine one_of_ok X (hT1.new hB) (by omega) (upd_self _ _ _) (by decide) (by decide) (hT1.neT hB) fun d m2 hd hO2 hT2 => ?_
  obtain ⟨name, hname, rfl⟩ := mem_strs (l := ["p", "q1"]) hd
  have e2 := (e1.new hB).only hO2
  clear hO2 hd hB B e1 hT1
  have hfin : ∀ (it : It) b m, it.Ok → b ≤ a + 80 → Ext T mu m → Tank m T D b → ∃ mu', (∀ b o, mu' b = some o → m b = some o) ∧ K (.dat it.d) mu' := fun it b m h1 h2 h3 h4 =>
    ⟨ovr mu T m, h3.ovr, h it b _ h1 h2 (only_ovr _ _ _) (hT.ovr h4)⟩
  generalize hb : a + 1 + 1 = b2 at hT2
  clear h hT
  have hkind : kind = "open" ∨ kind = "sig" ∨ kind ∈ (["fact", "assert"] : List Str) ∨ kind = "pred" ∨ kind = "fun" ∨ kind ∈ (["run", "check"] : List Str) := by
    simp only [List.mem_cons, List.not_mem_nil, or_false] at hkind ⊢
    rcases hkind with h | h | h | h | h | h | h | h <;> simp [h]
  rcases hkind with rfl | rfl | hkind | rfl | rfl | hkind
  · -- open
    walk_at "W"; walk_at "Q"
    walk_at "W"
    refine ⟨rfl, by walk_at "len", ?_⟩
    walk_at "W"
    refine lot_ok X hT2 (by omega) (by decide) fun j m3 j0 j1 hO3 hT3 => ?_
    obtain ⟨j, rfl⟩ : ∃ k : Nat, j = k := ⟨j.toNat, by omega⟩
    have e3 := e2.only hO3
    refine ⟨_, rfl, Z_tup 0 j (by walk_at "len") (.inl ⟨rfl, rfl⟩) (.inr ⟨j, rfl, ?_⟩) ?_⟩
    · show j = min j 2
      omega
    show (fun p mu => _) (PV.dat (.tuple (AB.take j))) m3
    walk_at "W"
    refine ⟨rfl, by walk_at "len", fun B hB => ?_⟩
    walk_at "W"
    refine one_of_ok X (hT3.new hB) (by omega) (upd_self _ _ _) (by decide) (by decide) (hT3.neT hB) fun d m4 hd hO4 hT4 => ?_
    obtain ⟨g, hg, rfl⟩ := mem_strs (l := ["", "o"]) hd
    walk_at "W"
    refine ⟨rfl, by walk_at "len", ?_⟩
    exact hfin (.opn j g) _ m4 ⟨by omega, hg⟩ (by omega) ((e3.new hB).only hO4) hT4
  · -- sig
    walk_at "W"; walk_at "Q"
    walk_at "W"; walk_at "Q"
    walk_at "W"
    refine S_swap ["names", "parent", "supers"] (by rfl) ?_
    walk_at "W"
    refine ⟨rfl, by walk_at "len", ?_⟩
    walk_at "W"
    refine lot_ok X hT2 (by omega) (by decide) fun j m3 j0 j1 hO3 hT3 => ?_
    obtain ⟨j, rfl⟩ : ∃ k : Nat, j = k := ⟨j.toNat, by omega⟩
    have e3 := e2.only hO3
    walk_at "W"
    refine ⟨_, rfl, Z_tup 0 (1 + j) (by walk_at "len") (.inl ⟨rfl, rfl⟩) (.inr ⟨1 + j, by rw [Int.natCast_add]; rfl, ?_⟩) ?_⟩
    · show 1 + j = min (1 + j) 2
      omega
    show (fun p mu => _) (PV.dat (.tuple (SS.take (1 + j)))) m3
    walk_at "W"
    refine ⟨rfl, by walk_at "len", fun B hB => ?_⟩
    walk_at "W"
    refine one_of_ok X (hT3.new hB) (by omega) (upd_self _ _ _) (by decide) (by decide) (hT3.neT hB) fun d m4 hd hO4 hT4 => ?_
    obtain ⟨parent, hpar, rfl⟩ := mem_strs (l := ["", "A"]) hd
    have e4 := (e3.new hB).only hO4
    clear hd hO4 hB B
    walk_at "W"
    refine ⟨rfl, by walk_at "len", ?_⟩
    walk_at "W"
    refine lot_ok X hT4 (by omega) (by decide) fun i m5 i0 i1 hO5 hT5 => ?_
    obtain ⟨i, rfl⟩ : ∃ k : Nat, i = k := ⟨i.toNat, by omega⟩
    have e5 := e4.only hO5
    refine ⟨_, rfl, Z_tup 0 i (by walk_at "len") (.inl ⟨rfl, rfl⟩) (.inr ⟨i, rfl, ?_⟩) ?_⟩
    · show i = min i 2
      omega
    show (fun p mu => _) (PV.dat (.tuple (AB.take i))) m5
    walk_at "W"
    refine ⟨rfl, by walk_at "len", ?_⟩
    refine A_bind (A_bind (A_bind (A_nil ?_)))
    walk_at "W"
    refine S_swap ["mult", "is_abstract"] (by rfl) ?_
    walk_at "W"
    refine ⟨rfl, by walk_at "len", fun B hB => ?_⟩
    walk_at "W"
    refine one_of_ok X (hT5.new hB) (by omega) (upd_self _ _ _) (by decide) (by decide) (hT5.neT hB) fun d m6 hd hO6 hT6 => ?_
    obtain ⟨mult, hmult, rfl⟩ := mem_strs (l := ["", "one", "lone", "some"]) hd
    have e6 := (e5.new hB).only hO6
    clear hd hO6 hB B
    walk_at "W"
    refine lot_ok X hT6 (by omega) (by decide) fun q m7 q0 q1 hO7 hT7 => ?_
    have e7 := e6.only hO7
    walk_at "W"
    refine O_eq (by rfl) (by rfl) ?_
    generalize PyData.eqv (.int q) (.int 1) = abs
    walk_at "W"
    refine ⟨rfl, by walk_at "len", ?_⟩
    refine A_bind (A_bind (A_nil ?_))
    walk_at "W"
    refine ⟨rfl, by walk_at "len", fun B hB => ?_⟩
    walk_at "W"
    refine decls_ok X (ms := ["", "one", "lone", "some", "set"]) (hT7.new hB) (by omega) (upd_self _ _ _) (by decide) (by decide) fun fs b m8 hfs hfl hb8 hO8 hT8 => ?_
    have e8 := (e7.new hB).only hO8
    clear hO8 hB B
    have hfin2 : ∀ cs b' m9, Cls cs → b' ≤ b + 20 → Only T m8 m9 → Tank m9 T D b' → ∀ sup, ((parent = "" ∧ sup ≤ 2) ∨ (parent = "A" ∧ sup = 0)) →
        ∃ mu', (∀ b o, mu' b = some o → m9 b = some o) ∧ K (.dat (It.sig (1 + j) abs mult parent sup fs cs).d) mu' := fun cs b' m9 h1 h2 h3 h4 sup h5 =>
      hfin (.sig (1 + j) abs mult parent sup fs cs) b' m9 ⟨by omega, by omega, hmult, h5, ⟨hfs, hfl⟩, h1⟩ (by omega) (e8.only h3) h4
    simp only [List.mem_cons, List.not_mem_nil, or_false] at hpar
    rcases hpar with rfl | rfl
    · walk_at "W"; walk_at "Q"
      walk_at "W"
      refine claims_ok X hT8 (by omega) fun cs b' m9 hcs hl hb9 hO9 hT9 => ?_
      walk_at "W"
      refine ⟨rfl, by walk_at "len", ?_⟩
      exact hfin2 cs b' m9 ⟨hcs, hl⟩ (by omega) hO9 hT9 i (.inl ⟨rfl, by omega⟩)
    · walk_at "W"; walk_at "Q"
      walk_at "W"
      refine ⟨rfl, by walk_at "len", ?_⟩
      walk_at "W"
      refine claims_ok X hT8 (by omega) fun cs b' m9 hcs hl hb9 hO9 hT9 => ?_
      walk_at "W"
      refine ⟨rfl, by walk_at "len", ?_⟩
      exact hfin2 cs b' m9 ⟨hcs, hl⟩ (by omega) hO9 hT9 0 (.inr ⟨rfl, rfl⟩)
  · -- fact
    obtain ⟨k0, k1, k2, k3⟩ := kinds_fa kind hkind
    walk_at "W"
    refine O_eq (by walk_at "sh") (by walk_at "sh") ⟨_, rfl, ite_f k1 ?_⟩
    walk_at "W"
    refine O_eq (by walk_at "sh") (by walk_at "sh") ⟨_, rfl, ite_f k2 ?_⟩
    walk_at "W"
    refine ⟨rfl, by walk_at "len", ?_⟩
    refine O_in_tup (by walk_at "can") (by walk_at "sh") ⟨_, rfl, ite_t k3 ?_⟩
    walk_at "W"
    refine ⟨rfl, by walk_at "len", fun B hB => ?_⟩
    walk_at "W"
    refine one_of_ok X (ds := [.str name, .str ""]) (hT2.new hB) (by omega) (upd_self _ _ _) (by walk_at "len") (by walk_at "len") (hT2.neT hB) fun d m3 hd hO3 hT3 => ?_
    obtain ⟨g, hg, rfl⟩ := mem_strs (l := [name, ""]) hd
    have e3 := (e2.new hB).only hO3
    walk_at "W"
    refine claims_ok X hT3 (by omega) fun cs b m4 hcs hl hb4 hO4 hT4 => ?_
    walk_at "W"
    refine ⟨rfl, by walk_at "len", ?_⟩
    refine hfin (.fa kind g cs) b m4 ⟨hkind, ?_, hcs, hl⟩ (by omega) (e3.only hO4) hT4
    simp only [List.mem_cons, List.not_mem_nil, or_false] at hg hname ⊢
    rcases hg with rfl | rfl
    · rcases hname with rfl | rfl
      · exact .inl rfl
      · exact .inr (.inl rfl)
    · exact .inr (.inr rfl)
  · -- pred
    walk_at "W"; walk_at "Q"
    walk_at "W"; walk_at "Q"
    walk_at "W"
    refine ⟨rfl, by walk_at "len", ?_⟩
    walk_at "W"; walk_at "Q"
    walk_at "W"; walk_at "Q"
    walk_at "W"
    refine ⟨rfl, by walk_at "len", fun B hB => ?_⟩
    walk_at "W"
    refine decls_ok X (ms := ["", "one", "set"]) (hT2.new hB) (by omega) (upd_self _ _ _) (by decide) (by decide) fun fs b m3 hfs hfl hb3 hO3 hT3 => ?_
    have e3 := (e2.new hB).only hO3
    walk_at "W"
    refine claims_ok X hT3 (by omega) fun cs b m4 hcs hl hb4 hO4 hT4 => ?_
    walk_at "W"
    refine ⟨rfl, by walk_at "len", ?_⟩
    exact hfin (.prd name fs cs) b m4 ⟨hname, ⟨hfs, hfl⟩, hcs, hl⟩ (by omega) (e3.only hO4) hT4
  · -- fun
    walk_at "W"; walk_at "Q"
    walk_at "W"; walk_at "Q"
    walk_at "W"
    refine ⟨rfl, by walk_at "len", ?_⟩
    walk_at "W"; walk_at "Q"
    walk_at "W"; walk_at "Q"
    walk_at "W"; walk_at "Q"
    walk_at "W"
    refine ⟨rfl, by walk_at "len", fun B hB => ?_⟩
    walk_at "W"
    refine decls_ok X (ms := ["", "lone"]) (hT2.new hB) (by omega) (upd_self _ _ _) (by decide) (by decide) fun fs b m3 hfs hfl hb3 hO3 hT3 => ?_
    have e3 := (e2.new hB).only hO3
    clear hO3 hB B
    walk_at "W"
    refine ⟨rfl, by walk_at "len", fun B hB => ?_⟩
    walk_at "W"
    refine one_of_ok X (hT3.new hB) (by omega) (upd_self _ _ _) (by decide) (by decide) (hT3.neT hB) fun d m4 hd hO4 hT4 => ?_
    obtain ⟨mult, hmult, rfl⟩ := mem_strs (l := ["", "one", "set"]) hd
    have e4 := (e3.new hB).only hO4
    walk_at "W"
    refine sum_ok X hT4 (by omega) fun r b' m5 hr hb5 hO5 hT5 => ?_
    walk_at "W"
    refine sum_ok X hT5 (by omega) fun r2 b2 m6 hr2 hb6 hO6 hT6 => ?_
    walk_at "W"
    refine ⟨rfl, by walk_at "len", ?_⟩
    exact hfin (.fn name fs mult r r2) _ m6 ⟨hname, ⟨hfs, hfl⟩, hmult, hr, hr2⟩ (by omega) ((e4.only hO5).only hO6) hT6
  · -- run
    obtain ⟨k0, k1, k2, k3, k4, k5⟩ := kinds_cmd kind hkind
    walk_at "W"
    refine O_eq (by walk_at "sh") (by walk_at "sh") ⟨_, rfl, ite_f k1 ?_⟩
    walk_at "W"
    refine O_eq (by walk_at "sh") (by walk_at "sh") ⟨_, rfl, ite_f k2 ?_⟩
    walk_at "W"
    refine ⟨rfl, by walk_at "len", ?_⟩
    refine O_in_tup (by walk_at "can") (by walk_at "sh") ⟨_, rfl, ite_f k3 ?_⟩
    walk_at "W"
    refine O_eq (by walk_at "sh") (by walk_at "sh") ⟨_, rfl, ite_f k4 ?_⟩
    walk_at "W"
    refine O_eq (by walk_at "sh") (by walk_at "sh") ⟨_, rfl, ite_f k5 ?_⟩
    walk_at "W"
    refine lot_ok X hT2 (by omega) (by decide) fun j m3 j0 j1 hO3 hT3 => ?_
    have e3 := e2.only hO3
    walk_at "W"
    refine O_eq (by rfl) (by rfl) ⟨_, rfl, ?_⟩
    refine ite_cs (fun _ => ?_) (fun _ => ?_)
    · walk_at "W"
      refine scope_ok X hT3 (by omega) fun sc b m4 hsc hb4 hO4 hT4 => ?_
      walk_at "W"; walk_at "Q"
      walk_at "W"
      refine lot_ok X hT4 (by omega) (by decide) fun j m5 j0 j1 hO5 hT5 => ?_
      walk_at "W"
      refine ⟨rfl, by walk_at "len", ?_⟩
      exact hfin (.cmd kind name none sc (j - 1)) (b + 1) m5 ⟨hkind, .inl ⟨rfl, hname⟩, hsc, by omega, by omega⟩ (by omega) ((e3.only hO4).only hO5) hT5
    · walk_at "W"
      refine claims_ok X hT3 (by omega) fun cs b m4 hcs hl hb4 hO4 hT4 => ?_
      walk_at "W"
      refine scope_ok X hT4 (by omega) fun sc b m5 hsc hb5 hO5 hT5 => ?_
      walk_at "W"; walk_at "Q"
      walk_at "W"
      refine lot_ok X hT5 (by omega) (by decide) fun j m6 j0 j1 hO6 hT6 => ?_
      walk_at "W"
      refine ⟨rfl, by walk_at "len", ?_⟩
      exact hfin (.cmd kind "" (some cs) sc (j - 1)) (b + 1) m6 ⟨hkind, .inr ⟨cs, rfl, ⟨hcs, hl⟩, rfl⟩, hsc, by omega, by omega⟩ (by omega) (((e3.only hO4).only hO5).only hO6) hT6
end
section
set_option maxRecDepth 100000
def sep (s : List Str) : List (List Str) → List Str
  | [] => []
  | [x] => x
  | x :: y :: r => x ++ s ++ sep s (y :: r)
theorem join_cat (s : List Str) : ∀ l : List (List Str), Txt.join (cat s) (l.map cat) = cat (sep s l) := by
  intro l
  show Builtin.Str.glued _ _ = _
  rw [StrLaws.glued_eq_join]
  induction l with
  | nil => rfl
  | cons x r ih =>
    cases r with
    | nil => rfl
    | cons y r =>
      show cat x ++ cat s ++ Str.join (cat s) ((y :: r).map cat) = cat (x ++ s ++ sep s (y :: r))
      rw [ih, cat_app, cat_app]
def one (x : Str) : List Str := ([x] : List Str)
theorem cat_one (x : Str) : cat (one x) = x := Str.append_empty x
theorem cat_ones (l : List Str) : (l.map one).map cat = l := by
  rw [List.map_map]
  conv => rhs; rw [← List.map_id l]
  exact List.map_congr_left fun x _ => cat_one x

def multP (m : Str) : List Str := if m = "" then [] else ([m, " "] : List Str)
def decS (i : Int) : Str := Str.ofString (toString i)
def Sm.ps (s : Sm) : List Str := s.hd :: s.tl.flatMap fun x => ([" ", "+", " ", x] : List Str)
def Cl.ps : Cl → List Str
  | .un g s => g :: " " :: s.ps
  | .inn a b => a.ps ++ ([" ", "in", " "] : List Str) ++ b.ps
def namesP (l : List Str) : List Str := sep ([",", " "] : List Str) (l.map one)
def Dc.ps (c : Dc) : List Str := (if c.disj = true then (["disj", " "] : List Str) else []) ++ namesP ((["x", "y", "z"] : List Str).take c.k) ++ ([":", " "] : List Str) ++ multP c.mult ++ c.s.ps
def nodesP (cs : List Cl) : List Str := sep ([" "] : List Str) (cs.map Cl.ps)
def declsP (cs : List Dc) : List Str := sep ([",", " "] : List Str) (cs.map Dc.ps)
def blockP (cs : List Cl) : List Str := if cs.length = 0 then (["{", " ", "}"] : List Str) else (["{", " "] : List Str) ++ nodesP cs ++ ([" ", "}"] : List Str)
def paramsP (cs : List Dc) : List Str := if cs.length = 0 then [] else (["["] : List Str) ++ declsP cs ++ (["]"] : List Str)
def Nu.ps (u : Nu) : List Str := (if u.ex = true then (["exactly", " "] : List Str) else []) ++ ([decS u.num, " ", u.sig] : List Str)
def numsP (us : List Nu) : List Str := sep ([",", " "] : List Str) (us.map Nu.ps)
def Sc.ps (s : Sc) : List Str :=
  if s.dflt < 0 then (if s.nums.length = 0 then [] else ([" ", "for", " "] : List Str) ++ numsP s.nums) else ([" ", "for", " ", decS s.dflt] : List Str) ++ (if s.nums.length = 0 then [] else ([" ", "but", " "] : List Str) ++ numsP s.nums)
def whatP (name : Str) : Option (List Cl) → List Str
  | none => ([name] : List Str)
  | some cs => blockP cs
def It.ps : It → List Str
  | .opn k as => (["open", " ", "util/ordering"] : List Str) ++ (if k = 0 then [] else (["["] : List Str) ++ namesP ((["A", "B"] : List Str).take k) ++ (["]"] : List Str)) ++ (if as = "" then [] else ([" ", "as", " ", as] : List Str))
  | .sig k abs mult parent sup fields facts => (if abs = true then (["abstract", " "] : List Str) else []) ++ multP mult ++ (["sig", " "] : List Str) ++ namesP ((["S", "T"] : List Str).take k) ++
      (if parent = "" then (if sup = 0 then [] else ([" ", "in", " "] : List Str) ++ sep ([" ", "+", " "] : List Str) (((["A", "B"] : List Str).take sup).map one)) else ([" ", "extends", " ", parent] : List Str)) ++
      (if fields.length = 0 then ([" ", "{", " ", "}"] : List Str) else ([" ", "{", " "] : List Str) ++ declsP fields ++ ([" ", "}"] : List Str)) ++ (if facts.length = 0 then [] else ([" "] : List Str) ++ blockP facts)
  | .fa kind name cs => ([kind] : List Str) ++ (if name = "" then [] else ([" ", name] : List Str)) ++ ([" "] : List Str) ++ blockP cs
  | .prd name ps cs => (["pred", " ", name] : List Str) ++ paramsP ps ++ ([" "] : List Str) ++ blockP cs
  | .fn name ps mult r b => (["fun", " ", name] : List Str) ++ paramsP ps ++ ([":", " "] : List Str) ++ multP mult ++ r.ps ++ ([" ", "{", " "] : List Str) ++ b.ps ++ ([" ", "}"] : List Str)
  | .cmd kind name nodes sc ex => ([kind, " "] : List Str) ++ whatP name nodes ++ sc.ps ++ (if ex < 0 then [] else ([" ", "expect", " ", decS ex] : List Str))

/-! lengths -/
theorem cat_len : ∀ l : List Str, (cat l).length = (l.map Str.length).sum
  | [] => rfl
  | x :: r => by rw [cat_cons, Str.length_append, cat_len r]; rfl
theorem Sm.len {s : Sm} (h : s.Ok) : (cat s.ps).length ≤ 9 := by
  obtain ⟨hd, tl⟩ := s
  obtain ⟨h1, h2, h3⟩ := h
  have key : ∀ l : List Str, (∀ x ∈ l, x ∈ (["A", "g", "C"] : List Str)) → (cat (l.flatMap fun x => ([" ", "+", " ", x] : List Str))).length = 4 * l.length := by
    intro l
    induction l with
    | nil => intro _; rfl
    | cons x r ih =>
      intro hl
      have hx : x.length = 1 := by
        have := hl x List.mem_cons_self
        simp only [List.mem_cons, List.not_mem_nil, or_false] at this
        rcases this with rfl | rfl | rfl <;> rfl
      rw [List.flatMap_cons, cat_app, Str.length_append, ih fun y hy => hl y (List.mem_cons_of_mem _ hy), cat_len]
      show (1 + (1 + (1 + (x.length + 0)))) + 4 * r.length = 4 * (r.length + 1)
      omega
  have hh : hd.length = 1 := by
    simp only [List.mem_cons, List.not_mem_nil, or_false] at h1
    rcases h1 with rfl | rfl | rfl | rfl <;> rfl
  show (hd ++ cat (tl.flatMap fun x => ([" ", "+", " ", x] : List Str))).length ≤ 9
  rw [Str.length_append, key tl h2, hh]
  have : tl.length ≤ 2 := h3
  omega
theorem str_len_of {l : List Str} {n : Nat} {x : Str} (h : x ∈ l) (hl : l.all (fun y => decide (y.length ≤ n)) = true) : x.length ≤ n := of_decide_eq_true (List.all_eq_true.mp hl x h)
theorem Cl.len {c : Cl} (h : c.Ok) : (cat c.ps).length ≤ 22 := by
  cases c with
  | un g s =>
    have h1 := Sm.len h.2
    have h2 := str_len_of (n := 4) h.1 (by decide +kernel)
    show (g ++ (" " ++ cat s.ps)).length ≤ 22
    rw [Str.length_append, Str.length_append, show (" " : Str).length = 1 from rfl]
    omega
  | inn a b =>
    have h1 := Sm.len h.1
    have h2 := Sm.len h.2
    show (cat (a.ps ++ ([" ", "in", " "] : List Str) ++ b.ps)).length ≤ 22
    rw [cat_app, cat_app, Str.length_append, Str.length_append, show (cat ([" ", "in", " "] : List Str)).length = 4 from rfl]
    omega
theorem multP_len {m : Str} : (cat (multP m)).length ≤ m.length + 1 := by
  unfold multP
  split
  · exact Nat.zero_le _
  · rw [cat_len]; show m.length + (1 + 0) ≤ _; omega
theorem Dc.len {ms : List Str} {c : Dc} (h : c.Ok ms) (hm : c.mult.length ≤ 4) : (cat c.ps).length ≤ 28 := by
  have h1 := Sm.len h.s
  have h2 := multP_len (m := c.mult)
  have h3 : (cat (namesP ((["x", "y", "z"] : List Str).take c.k))).length ≤ 7 := by
    have := h.lo
    have := h.hi
    obtain h | h | h : c.k = 1 ∨ c.k = 2 ∨ c.k = 3 := by omega
    all_goals rw [h]; decide +kernel
  have h4 : (cat (if c.disj = true then (["disj", " "] : List Str) else [])).length ≤ 5 := by cases c.disj <;> decide +kernel
  show (cat (_ ++ _ ++ ([":", " "] : List Str) ++ _ ++ _)).length ≤ _
  simp only [cat_app, Str.length_append, show (cat ([":", " "] : List Str)).length = 2 from rfl]
  omega
theorem sum_len {b : Nat} : ∀ {l : List Str}, (∀ x ∈ l, x.length ≤ b) → (l.map (·.length)).sum ≤ l.length * b
  | [], _ => Nat.zero_le _
  | x :: r, h => by
    have h1 := h x List.mem_cons_self
    have h2 := sum_len (l := r) fun y hy => h y (List.mem_cons_of_mem _ hy)
    rw [List.map_cons, List.sum_cons, List.length_cons, Nat.succ_mul]
    omega
theorem sep_len {s : List Str} {b k : Nat} (hs : (cat s).length ≤ k) : ∀ {l : List (List Str)}, (∀ x ∈ l, (cat x).length ≤ b) → (cat (sep s l)).length ≤ l.length * (b + k)
  | [], _ => Nat.zero_le _
  | [x], h => by
    have h1 := h x List.mem_cons_self
    show (cat x).length ≤ 1 * (b + k)
    omega
  | x :: y :: r, h => by
    have h1 := h x List.mem_cons_self
    have h2 := sep_len hs (l := y :: r) fun z hz => h z (List.mem_cons_of_mem _ hz)
    show (cat (x ++ s ++ sep s (y :: r))).length ≤ (r.length + 1 + 1) * (b + k)
    rw [cat_app, cat_app, Str.length_append, Str.length_append, Nat.succ_mul]
    have h2 : (cat (sep s (y :: r))).length ≤ (r.length + 1) * (b + k) := h2
    omega
theorem decS_len {i : Int} (h0 : 0 ≤ i) (h1 : i < 12) : (decS i).length ≤ 2 := by
  have key : ∀ k : Fin 12, (decS (k.val : Int)).length ≤ 2 := by decide +kernel
  have := key ⟨i.toNat, by omega⟩
  rwa [show ((i.toNat : Nat) : Int) = i by omega] at this
theorem Nu.len {u : Nu} (h : u.Ok) : (cat u.ps).length ≤ 12 := by
  have h1 := decS_len h.lo h.hi
  have h2 := str_len_of (n := 1) h.sig (by decide +kernel)
  have h4 : (cat (if u.ex = true then (["exactly", " "] : List Str) else [])).length ≤ 8 := by cases u.ex <;> decide +kernel
  show (cat (_ ++ _)).length ≤ _
  rw [cat_app, Str.length_append, cat_len [decS u.num, " ", u.sig]]
  show _ + ((decS u.num).length + (1 + (u.sig.length + 0))) ≤ 12
  omega
end
section
set_option maxRecDepth 100000
set_option maxHeartbeats 400000
def signRows : List PyData := [.tuple [.str "||"], .tuple [.str "<=>"], .tuple [.str "=>"], .tuple [.str "&&"], .tuple [], .tuple [.str "=", .str "!=", .str "in", .str "!in", .str "<", .str ">", .str "<=", .str ">="], .tuple [], .tuple [.str "+", .str "-"], .tuple [], .tuple [.str "++"], .tuple [.str "&"], .tuple [], .tuple [.str "<:"], .tuple [.str ":>"], .tuple [], .tuple [.str "."]]
def rowOf : PyData → List PyData
  | .tuple ds => ds
  | _ => []
def hits (sign : Str) (i : Nat) : List PyData := ((List.range i).filter fun j => (rowOf (signRows.getD j .none)).any fun y => PyData.eqv y (.str sign)).map fun (j : Nat) => .int j
theorem hits_len (sign : Str) (i : Nat) : (hits sign i).length ≤ i := by
  unfold hits
  rw [List.length_map]
  exact Nat.le_trans (List.length_filter_le _ _) (by rw [List.length_range]; exact Nat.le_refl _)
theorem hits_succ (sign : Str) (i : Nat) : hits sign (i + 1) = if ((rowOf (signRows.getD i .none)).any fun y => PyData.eqv y (.str sign)) = true then hits sign i ++ [.int i] else hits sign i := by
  unfold hits
  rw [List.range_succ, List.filter_append, List.map_append]
  split
  · rename_i h; simp only [List.filter_cons, h, if_true, List.filter_nil]; rfl
  · rename_i h; simp only [List.filter_cons, h, List.filter_nil]; simp
theorem rows_can : ∀ d ∈ signRows, ∃ ds, d = .tuple ds ∧ PyData.canLayAll0 ds = true := by
  intro d hd
  simp only [signRows, List.mem_cons, List.not_mem_nil, or_false] at hd
  rcases hd with rfl | rfl | rfl | rfl | rfl | rfl | rfl | rfl | rfl | rfl | rfl | rfl | rfl | rfl | rfl | rfl <;> exact ⟨_, rfl, by walk_at "can"⟩

theorem ne12 (L : Nat) : L + 1 ≠ L + 2 := by omega
theorem lt_ne1 {b L : Nat} (h : b < L) : b ≠ L + 1 := by omega
theorem lt_ne2 {b L : Nat} (h : b < L) : b ≠ L + 2 := by omega
theorem level_of_two_ok {C : Cx} (X : Cok C) {n : Nat} {mu : Mu} {sign : Str} {lv : Int} {r : List PyData} {K : PV → Mu → Prop} (hs : PyData.strOk sign = true) (hh : hits sign 16 = .int (lv - 1) :: r)
    (h : K (.dat (.int lv)) mu) : FnOk C (n + 1) "level_of_two" mu [.dat (.str sign)] K := by
  refine enterC X (fun L => upd (upd mu (L + 1) (.cell (some (.dat (.str sign))))) (L + 2) (.cell none)) (by rfl) (by rfl) (by rfl) rfl (fun _ => by rfl) (by rfl) (fun _ => by rfl) rfl rfl rfl rfl (fun L b m e => ?_) (fun L b hb => ?_) ?_
  · unfold upd at e
    split at e
    · rename_i q; cases e; exact .inr ⟨"rows", by rw [q]; rfl, rfl⟩
    · split at e
      · rename_i q; cases e; exact .inr ⟨"sign", by rw [q]; rfl, rfl⟩
      · exact .inl e
  · show upd (upd mu (L + 1) _) (L + 2) _ b = mu b
    rw [upd_ne _ (lt_ne2 hb), upd_ne _ (lt_ne1 hb)]
  intro L hfr
  have s1 : upd (upd mu (L + 1) (.cell (some (.dat (.str sign))))) (L + 2) (.cell none) (L + 2) = some (.cell none) := upd_self _ _ _
  have s2 : upd (upd mu (L + 1) (.cell (some (.dat (.str sign))))) (L + 2) (.cell none) (L + 1) = some (.cell (some (.dat (.str sign)))) := by rw [upd_ne _ (ne12 L), upd_self]
  have s3 : ∀ b o, mu b = some o → upd (upd mu (L + 1) (.cell (some (.dat (.str sign))))) (L + 2) (.cell none) b = some o := fun b o e => by
    have : b ≠ L + 1 := fun q => by rw [q, hfr _ (Nat.le_add_right L _)] at e; cases e
    have : b ≠ L + 2 := fun q => by rw [q, hfr _ (Nat.le_add_right L _)] at e; cases e
    rw [upd_ne _ (by assumption), upd_ne _ (by assumption)]; exact e
  have s4 := hfr (L + 2) (Nat.le_add_right L _)
  generalize upd (upd mu (L + 1) (.cell (some (.dat (.str sign))))) (L + 2) (.cell none) = m0 at s1 s2 s3 ⊢
  walk_at "W"
  refine S_assign_cell (c := L + 2) ?_ ?_ ?_ ?_ ?_
  · rfl
  rotate_left
  · rfl
  · rfl
  · unfold swapsWith; simp only []
  iterate 17 (walk_at "W"; refine ⟨rfl, by walk_at "len", ?_⟩)
  refine ⟨none, s1, ?_⟩
  have s5 : upd m0 (L + 2) (.cell (some (.dat (.tuple signRows)))) (L + 2) = some (.cell (some (.dat (.tuple signRows)))) := upd_self _ _ _
  have s6 : upd m0 (L + 2) (.cell (some (.dat (.tuple signRows)))) (L + 1) = some (.cell (some (.dat (.str sign)))) := by rw [upd_ne _ (ne12 L)]; exact s2
  have s7 : ∀ b o, mu b = some o → upd m0 (L + 2) (.cell (some (.dat (.tuple signRows)))) b = some o := fun b o e => by
    rw [upd_ne _ fun q => by rw [q, s4] at e; cases e]; exact s3 b o e
  show EvS _ _ _ _ ⟨_, upd m0 (L + 2) (.cell (some (.dat (.tuple signRows))))⟩ _
  generalize upd m0 (L + 2) (.cell (some (.dat (.tuple signRows)))) = m1 at s5 s6 s7 ⊢
  clear s1 s2 s3 s4
  walk_at "W"
  refine E_comp [(Str.ofString "sign", L + 1), (Str.ofString "rows", L + 2)] (fun items i acc m => m = m1 ∧ acc = hits sign i ∧ items.length = 16) ?_
  refine Src_range (globN X (by rfl)) ?_
  walk_at "W"
  refine E_cell (by rfl) s5 ?_
  walk_at "W"
  refine C_len_tup (by walk_at "len") ?_
  refine ⟨16, rfl, by decide, ?_, ⟨rfl, rfl, by rw [len_range_map]⟩, ?_, ?_, ?_⟩
  · rw [len_range_map, sizeLine_eq]; decide
  · rintro i acc m ⟨rfl, rfl, _⟩
    exact hits_len _ _
  · rintro i d acc m L' hi ⟨rfl, rfl, hk⟩
    have hik := lt_of_get hi
    rw [hk] at hik
    obtain rfl : d = .int i := by
      rw [List.getElem?_map, List.getElem?_range hik] at hi
      simpa using hi.symm
    have hj : signRows[i]? = some (signRows.getD i .none) := by
      rw [List.getD_eq_getElem?_getD, List.getElem?_eq_getElem (show i < signRows.length from hik)]; rfl
    have hsucc := hits_succ sign i
    obtain ⟨ds, e1, e2⟩ := rows_can _ (List.mem_of_getElem? hj)
    rw [e1] at hj hsucc
    refine As_name ?_
    show EvT _ _ _ _ _ _
    walk_at "W"
    refine E_cell (by rfl) s6 ?_
    walk_at "W"
    refine E_cell (by rfl) s5 ?_
    walk_at "W"
    refine B_tup (by omega) (by omega) (j := i) ?_ hj ?_
    · unfold seqIndex?
      simp [signRows]
      omega
    refine O_in_tup e2 (by walk_at "sh") ⟨_, rfl, ?_⟩
    change _ = if (ds.any fun y => PyData.eqv y (.str sign)) = true then _ else _ at hsucc
    refine ite_cs (fun q => ?_) (fun q => ?_)
    · rw [if_pos q] at hsucc
      walk_at "W"
      exact ⟨_, rfl, rfl, hsucc.symm, hk⟩
    · rw [if_neg (by rw [q]; simp)] at hsucc
      exact ⟨rfl, hsucc.symm, hk⟩
  · rintro acc m ⟨rfl, hacc, hk⟩ F hF
    rw [hk, hh] at hacc
    subst hacc
    walk_at "W"
    refine B_list (d := .int (lv - 1)) (upd_self _ _ _) (by decide) (by decide) (by rfl) ?_
    walk_at "W"
    refine ⟨mu, fun b o e => ?_, by rw [show lv = lv - 1 + 1 by omega] at h; exact h⟩
    show upd m F _ b = some o
    rw [upd_ne _ fun q => by rw [← q, s7 b o e] at hF; cases hF]
    exact s7 b o e
end
section
set_option maxRecDepth 100000
def Gives (C : Cx) (n : Nat) (f : Str) (ps : List PV) (p : PV) : Prop := ∀ mu K, K p mu → FnOk C n f mu ps K
theorem Gives.le {C : Cx} {n m : Nat} {f : Str} {ps : List PV} {p : PV} (h : Gives C n f ps p) (k : n ≤ m) : Gives C m f ps p := fun mu K hk a ha A s vs q r pv => h mu K hk a ha A s vs (q.le k) r pv
theorem FnOk.le {C : Cx} {n m : Nat} {f : Str} {mu : Mu} {ps : List PV} {K : PV → Mu → Prop} (h : FnOk C n f mu ps K) (k : n ≤ m) : FnOk C m f mu ps K := fun a ha A s vs q r pv => h a ha A s vs (q.le k) r pv
theorem str_to {x y : Str} {mu : Mu} {K : PV → Mu → Prop} (h : K (.dat (.str y)) mu) (e : x = y) : K (.dat (.str x)) mu := by rw [e]; exact h
theorem ret_to {x y : Str} {mu : Mu} {loc : List (Str × PV)} {K : PV → Mu → Prop} (h : K (.dat (.str y)) mu) (e : x = y) : RetK K (.ret (.dat (.str x))) ⟨loc, mu⟩ := ⟨mu, fun _ _ e => e, str_to h e⟩
theorem ret_of {p : PV} {mu : Mu} {loc : List (Str × PV)} {K : PV → Mu → Prop} (h : K p mu) : RetK K (.ret p) ⟨loc, mu⟩ := ⟨mu, fun _ _ e => e, h⟩
end
section
section
variable {C : Cx} {n : Nat} {env : Env} {mu : Mu} {K : PV → Mu → Prop}
theorem C_joinT {x : Str} {ys : List Str} (hs : (ys.map (·.length)).sum + ys.length * x.length ≤ 16777216) (h : K (.dat (.str (Txt.join x ys))) mu) : CallOk C n mu (.builtin "str.join") [.dat (.str x), .dat (.tuple (ys.map .str))] K := by
  intro A s vs a r hvs
  obtain ⟨v, u, rfl, hv, hu⟩ := pv2 hvs
  cases hv
  have key : ∀ {us : List Value} {zs : List Str}, RdAll s.heap us (zs.map .str) → StrsAre us zs := by
    intro us zs
    induction zs generalizing us with
    | nil => intro q; cases q; exact .nil
    | cons z zs ih => intro q; cases q with | cons q1 q2 => cases q1; exact .cons _ _ (ih q2)
  cases hu with
  | tuple e1 e2 e3 hr => exact join_tuple ⟨_, e1, e2, _, e3⟩ (key hr) hs fun t' tk => (Grow.refl s tk).post r (p := .dat (.str _)) (Rd.str _ _) h

theorem CompOk.map {α : Type} (cs : List α) (d out : α → PyData) {target elt : Expr} {ifs : List Expr} {scope : Scope} {cl : List (Str × Addr)} {mu1 : Mu} {Fin : List PyData → Mu → Prop} (hsz : cs.length ≤ 1000)
    (turn : ∀ c ∈ cs, ∀ acc L, CompTurn C n (cenvOf scope L env cl) target elt ifs (d c) acc mu1 fun acc' mu' => mu' = mu1 ∧ acc' = acc ++ [out c]) (fin : Fin (cs.map out) mu1) :
    CompOk C n env target elt ifs scope cl (fun items i acc m => m = mu1 ∧ acc = (cs.take i).map out) Fin (cs.map d) mu1 := by
  refine ⟨by rw [List.length_map, sizeLine_eq]; omega, ⟨rfl, rfl⟩, fun i acc m ⟨_, h⟩ => ?_, fun i e acc m L hi ⟨h1, h2⟩ => ?_, fun acc m ⟨h1, h2⟩ => ?_⟩
  · rw [h, List.length_map]; exact List.length_take_le _ _
  · subst h1
    rw [List.getElem?_map] at hi
    cases hc : cs[i]? with
    | none => rw [hc] at hi; simp at hi
    | some c =>
      rw [hc] at hi
      obtain rfl : d c = e := by simpa using hi
      have := turn c (List.mem_of_getElem? hc) acc L
      subst h2
      show CompTurn C n _ target elt ifs (d c) _ m fun acc' mu'' => mu'' = m ∧ acc' = (cs.take (i + 1)).map out
      rw [List.take_add_one, hc, List.map_append]
      exact this
  · rw [List.length_map, List.take_length] at h2
    rw [h1, h2]; exact fin

theorem Ev.mono {t : Sem Value} {S : St} {Q Q' : PV → Mu → Prop} (h : Ev C n env t S Q) (k : ∀ p m, Q p m → Q' p m) : Ev C n env t S Q' := fun A s a r =>
  wpAny_mono (h A s a r) (fun _ _ ⟨p, m, x1, x2, x3, x4⟩ => ⟨p, m, x1, x2, x3, k p m x4⟩) fun _ _ x => x
def To (p : PV) (mu : Mu) : PV → Mu → Prop := fun q m => q = p ∧ m = mu
theorem to_str {x y : Str} {mu : Mu} (e : x = y) : To (.dat (.str y)) mu (.dat (.str x)) mu := ⟨by rw [e], rfl⟩
theorem ite_to {b : Bool} (p : PV) {e1 e2 : Expr} {loc : List (Str × PV)} {mu₀ : Mu} {Q : PV → Mu → Prop} (h1 : b = true → EvE C n env e1 ⟨loc, mu₀⟩ (To p mu₀)) (h2 : b = false → EvE C n env e2 ⟨loc, mu₀⟩ (To p mu₀)) (h : Q p mu₀) :
    if b = true then EvE C n env e1 ⟨loc, mu₀⟩ Q else EvE C n env e2 ⟨loc, mu₀⟩ Q := by
  have k : ∀ q m, To p mu₀ q m → Q q m := fun q m ⟨x, y⟩ => by rw [x, y]; exact h
  cases b with
  | true => rw [if_pos rfl]; exact (h1 rfl).mono k
  | false => rw [if_neg (by simp)]; exact (h2 rfl).mono k

theorem EvX.to {t : Sem Flow} {S : St} {Q : Fl → St → Prop} (S1 : St) (h : EvX C n env t S fun fl S2 => fl = .next ∧ Sub S1 S2) (hQ : Q .next S1) : EvX C n env t S Q := fun A s a r =>
  wpAny_mono (h A s a r) (fun f s' ⟨fl, S2, x1, x2, x3, x4, x5⟩ => ⟨.next, S1, by rw [x4] at x1; exact x1, x2.less x5, x3.less x5.mu, hQ⟩) fun _ _ x => x

def Le (mu m : Mu) : Prop := ∀ b o, mu b = some o → m b = some o
theorem Le.refl (mu : Mu) : Le mu mu := fun _ _ e => e
theorem Le.new {m : Mu} {B : Addr} {o : MO} (h : Le mu m) (hB : m B = none) : Le mu (upd m B o) := fun b p e => by
  have := h b p e
  rw [upd_ne _ fun q => by rw [← q, this] at hB; cases hB]; exact this
theorem Le.set {m : Mu} {B : Addr} {o : MO} (h : Le mu m) (hB : mu B = none) : Le mu (upd m B o) := fun b p e => by
  rw [upd_ne _ fun q => by rw [← q, e] at hB; cases hB]; exact h b p e
theorem Le.drop {m : Mu} {B : Addr} (h : Le mu m) (hB : mu B = none) : Le mu (drop m B) := fun b p e => by
  unfold Mine.drop
  rw [if_neg fun q => by rw [← q, e] at hB; cases hB]; exact h b p e
theorem Le.none {m : Mu} {B : Addr} (h : Le mu m) (hB : m B = none) : mu B = none := by
  cases e : mu B with
  | none => rfl
  | some o => rw [h B o e] at hB; cases hB
theorem Le.trans {m m2 : Mu} (h : Le mu m) (h2 : Le m m2) : Le mu m2 := fun b o e => h2 b o (h b o e)
theorem ret_le {p : PV} {m : Mu} {loc : List (Str × PV)} (hl : Le mu m) (h : K p mu) : RetK K (.ret p) ⟨loc, m⟩ := ⟨mu, hl, h⟩
theorem drop_self (m : Mu) (B : Addr) (o : MO) : drop (upd m B o) B = drop m B := by
  funext b
  unfold drop upd
  split <;> rfl

theorem starts_no {x r : Str} {c : Nat} {l : List Nat} (h : x.cps.toList = c :: l) (hc : c ≠ 45) : Txt.startswith (x ++ r) "-" = false := by
  have e : (x ++ r).cps.toList = c :: (l ++ r.cps.toList) := by rw [Str.cps_append, Array.toList_append, h]; rfl
  unfold Txt.startswith
  rw [Bool.and_eq_false_iff]
  right
  rw [StrLaws.subAt_eq, e]
  show (([c] : List Nat) == [45]) = false
  simp [hc]
end
end
section
set_option maxRecDepth 100000
/-! words of a text: pieces and their kinds -/
def letters : Str := "abcdefghijklmnopqrstuvwxyzABCDEFGHIJKLMNOPQRSTUVWXYZ0123456789_/"
def chr (c : Nat) : Str := ⟨#[c]⟩
def isL (c : Nat) : Bool := Txt.contains letters (chr c)
def isW (x : Str) : Bool := !x.cps.toList.isEmpty && x.cps.toList.all isL && x.cps.toList.all fun c => decide (c < 0x110000)
def isO (x : Str) : Bool := match x.cps.toList with | [c] => !isL c && !(c == 10) && c < 0x110000 | _ => false
inductive Au where | b | l | o
  deriving DecidableEq
def stepA (s : Au) (x : Str) : Option Au :=
  if x = " " then (if s = .b then none else some .b) else if isW x = true then (if s = .l then none else some .l) else if isO x = true then some .o else none
def runA : Au → List Str → Option Au
  | s, [] => some s
  | s, x :: r => (stepA s x).bind fun s' => runA s' r
theorem runA_app : ∀ (a b : List Str) (s : Au), runA s (a ++ b) = (runA s a).bind fun s' => runA s' b
  | [], _, _ => rfl
  | x :: r, b, s => by
    rw [List.cons_append]
    show (stepA s x).bind _ = ((stepA s x).bind _).bind _
    cases stepA s x with
    | none => rfl
    | some t => exact runA_app r b t
def keep (x : Str) : Bool := !(x == " ")
def W (ps : List Str) : List Str := ps.filter keep
theorem W_app (a b : List Str) : W (a ++ b) = W a ++ W b := List.filter_append ..
theorem chr_toList (c : Nat) : (chr c).cps.toList = [c] := rfl
theorem str_of_list {x : Str} {l : List Nat} (h : x.cps.toList = l) : x = ⟨l.toArray⟩ := Str.ext' (by rw [← h])

/-- what the walk over a text needs to know -/
def headNo (ps : List Str) : Prop := match ps with
  | [] => True
  | x :: _ => ∃ c l, x.cps.toList = c :: l ∧ isL c = false
def Seg : List Str → Prop
  | [] => True
  | x :: r => (∀ c ∈ x.cps.toList, c < 0x110000) ∧ ((∃ c, x.cps.toList = [c] ∧ isL c = false) ∨ (x ≠ " " ∧ (∃ c l, x.cps.toList = c :: l) ∧ (∀ c ∈ x.cps.toList, isL c = true) ∧ headNo r)) ∧ Seg r
theorem sp_not : isL 32 = false := by decide +kernel
theorem seg_of : ∀ (ps : List Str) (s t : Au), runA s ps = some t → Seg ps ∧ (s = .l → headNo ps)
  | [], _, _, _ => ⟨trivial, fun _ => trivial⟩
  | x :: r, s, t, h => by
    simp only [runA] at h
    cases e : stepA s x with
    | none => rw [e] at h; cases h
    | some s' =>
      rw [e] at h
      obtain ⟨i1, i2⟩ := seg_of r s' t h
      unfold stepA at e
      split at e
      · rename_i hx
        subst hx
        have : ((" " : Str).cps.toList) = [32] := by decide +kernel
        exact ⟨⟨by rw [this]; decide, .inl ⟨32, this, sp_not⟩, i1⟩, fun _ => ⟨32, [], this, sp_not⟩⟩
      · rename_i hx
        split at e
        · rename_i hw
          split at e
          · cases e
          · rename_i hs
            cases e
            unfold isW at hw
            rw [Bool.and_eq_true, Bool.and_eq_true] at hw
            obtain ⟨hw, hv⟩ := hw
            refine ⟨⟨fun c hc => of_decide_eq_true (List.all_eq_true.mp hv c hc), .inr ⟨hx, ?_, fun c hc => List.all_eq_true.mp hw.2 c hc, i2 rfl⟩, i1⟩, fun q => absurd q hs⟩
            cases q : x.cps.toList with
            | nil => rw [q] at hw; simp at hw
            | cons c l => exact ⟨c, l, rfl⟩
        · split at e
          · rename_i ho
            unfold isO at ho
            split at ho
            · rename_i c q
              rw [Bool.and_eq_true, Bool.and_eq_true] at ho
              have := ho.1.1
              have hc : isL c = false := by simpa using this
              exact ⟨⟨fun d hd => by rw [q, List.mem_singleton] at hd; rw [hd]; exact of_decide_eq_true ho.2, .inl ⟨c, q, hc⟩, i1⟩, fun _ => ⟨c, [], q, hc⟩⟩
            · cases ho
          · cases e

theorem cat_list : ∀ (ps : List Str), (cat ps).cps.toList = ps.flatMap fun x => x.cps.toList
  | [] => rfl
  | x :: r => by
    show (x ++ cat r).cps.toList = _
    rw [Str.cps_append, Array.toList_append, cat_list r, List.flatMap_cons]
theorem len_list (x : Str) : x.length = x.cps.toList.length := by simp [Str.length]
theorem item_at {x : Str} {i : Nat} {c : Nat} (h : x.cps.toList[i]? = some c) : Txt.item x (i : Int) = chr c := by
  have hi : i < x.length := by rw [len_list]; exact (List.getElem?_eq_some_iff.mp h).1
  unfold Txt.item Txt.charAt
  have e : seqIndex? (i : Int) x.length = some i := by
    unfold seqIndex?
    simp
    omega
  rw [e]
  show (⟨#[(x.cps[i]?).getD 0]⟩ : Str) = _
  rw [← Array.getElem?_toList, h]
  rfl
theorem slice_at {x : Str} {i j : Nat} (hij : i ≤ j) (hj : j ≤ x.length) : Txt.slice x (some (i : Int)) (some (j : Int)) = ⟨((x.cps.toList.drop i).take (j - i)).toArray⟩ :=
  StrLaws.sliceText_nat x hij hj
/-- a piece in the middle of a text -/
theorem mid_get (pre : List Str) (x : Str) (post : List Str) (k : Nat) (h : k < x.length) : (cat (pre ++ x :: post)).cps.toList[(cat pre).length + k]? = x.cps.toList[k]? := by
  rw [cat_list, List.flatMap_append, List.flatMap_cons, ← cat_list pre, len_list (cat pre), List.getElem?_append_right (by omega), Nat.add_sub_cancel_left, List.getElem?_append_left (by rw [← len_list]; exact h)]
theorem mid_slice (pre : List Str) (x : Str) (post : List Str) : Txt.slice (cat (pre ++ x :: post)) (some ((cat pre).length : Int)) (some (((cat pre).length + x.length : Nat) : Int)) = x := by
  rw [slice_at (Nat.le_add_right _ _) (by rw [cat_app, cat_cons, Str.length_append, Str.length_append]; omega)]
  refine (str_of_list ?_).symm
  rw [cat_list, List.flatMap_append, List.flatMap_cons, ← cat_list pre, len_list (cat pre), List.drop_left, Nat.add_sub_cancel_left, len_list x, List.take_left]
end
section
set_option maxRecDepth 100000
set_option maxHeartbeats 400000
theorem hits_plus : hits "+" 16 = [.int (8 - 1)] := by rfl
theorem hits_in : hits "in" 16 = [.int (6 - 1)] := by rfl
theorem two_plus {C : Cx} (X : Cok C) {n : Nat} : Gives C (n + 1) "level_of_two" [.dat (.str "+")] (.dat (.int 8)) := fun _ _ h => level_of_two_ok X (by decide +kernel) hits_plus h
theorem two_in {C : Cx} (X : Cok C) {n : Nat} : Gives C (n + 1) "level_of_two" [.dat (.str "in")] (.dat (.int 6)) := fun _ _ h => level_of_two_ok X (by decide +kernel) hits_in h

def GG : List Str := ["some", "no", "lone", "one"]
theorem mults_rd {C : Cx} (X : Cok C) : ∃ v, C.mg "MULTS" = some v ∧ Rd C.h v (.tuple [.str "some", .str "no", .str "lone", .str "one", .str "set"]) := X.mults
theorem level_of_one_ok {C : Cx} (X : Cok C) {n : Nat} {g : Str} (hg : g ∈ GG) : Gives C (n + 1) "level_of_one" [.dat (.str g)] (.dat (.int 7)) := by
  intro mu K h
  refine enter X ["sign"] (by rfl) (by rfl) (by rfl) (by rfl) rfl (bind1 rfl (fun _ => by rfl)) (by decide) (by decide) rfl rfl rfl ?_
  intro L
  obtain ⟨v, hv, hrd⟩ := mults_rd X
  simp only [GG, List.mem_cons, List.not_mem_nil, or_false] at hg
  rcases hg with rfl | rfl | rfl | rfl <;>
  · walk_at "W"; walk_at "Q"
    walk_at "W"
    refine E_glob hv hrd ?_
    walk_at "Q"
    walk_at "W"
    exact ret_of h

theorem level_name {C : Cx} (X : Cok C) {n : Nat} {k : Int} {x : Str} : Gives C (n + 2) "level_of" [.dat (nameD k x)] (.dat (.int 18)) := by
  intro mu K h
  show FnOk C _ _ mu [.dat (.tuple [.str "name", .int k, .str x])] K
  refine enter X ["node"] (by rfl) (by rfl) (by rfl) (by rfl) rfl (bind1 rfl (fun _ => by rfl)) (by decide) (by decide) rfl rfl rfl ?_
  intro L
  walk_at "W"; walk_at "T"
  walk_at "W"; walk_at "Q"
  walk_at "W"; walk_at "Q"
  walk_at "W"
  refine E_dictX (by rfl) (by rfl) (by simp) (by decide) ?_
  refine D_cons ?_
  walk_at "W"
  refine D_cons ?_
  walk_at "W"
  refine D_cons ?_
  walk_at "W"
  refine D_nil fun d hd hsy => ⟨Ty_dict (upd_self _ _ _), ?_⟩
  walk_at "W"
  refine C_get (upd_self _ _ _) hsy ?_
  exact ⟨mu, fun b o e => by show upd mu d _ b = some o; rw [upd_ne _ fun q => by rw [← q, e] at hd; cases hd]; exact e, h⟩
theorem level_plus {C : Cx} (X : Cok C) {n : Nat} {k : Int} {a b : PyData} : Gives C (n + 2) "level_of" [.dat (.tuple [.str "bin", .int k, .str "+", a, b])] (.dat (.int 8)) := by
  intro mu K h
  refine enter X ["node"] (by rfl) (by rfl) (by rfl) (by rfl) rfl (bind1 rfl (fun _ => by rfl)) (by decide) (by decide) rfl rfl rfl ?_
  intro L
  walk_at "W"; walk_at "T"
  walk_at "W"; walk_at "Q"
  walk_at "W"
  exact two_plus X _ _ (ret_of h)

theorem put_ok {C : Cx} (X : Cok C) {n : Nat} {d : PyData} {t : Str} {lv least : Int} (h1 : Gives C n "node_text" [.dat d] (.dat (.str t))) (h2 : Gives C n "level_of" [.dat d] (.dat (.int lv))) (hl : least ≤ lv) :
    Gives C (n + 1) "put" [.dat d, .dat (.int least)] (.dat (.str t)) := by
  intro mu K h
  refine enter X ["node", "least"] (by rfl) (by rfl) (by rfl) (by rfl) rfl (bind2 rfl (fun _ _ => by rfl)) (by decide) (by decide) rfl rfl rfl ?_
  intro L
  walk_at "W"
  refine h1 _ _ ?_
  walk_at "W"
  refine h2 _ _ ?_
  walk_at "W"
  refine ⟨_, rfl, ite_t (decide_eq_true hl) ?_⟩
  walk_at "W"
  exact ret_of h

theorem name_text {C : Cx} (X : Cok C) {n : Nat} {k : Int} {x : Str} : Gives C (n + 1) "node_text" [.dat (nameD k x)] (.dat (.str x)) := by
  intro mu K h
  show FnOk C _ _ mu [.dat (.tuple [.str "name", .int k, .str x])] K
  refine enter X ["node"] (by rfl) (by rfl) (by rfl) (by rfl) rfl (bind1 rfl (fun _ => by rfl)) (by decide) (by decide) rfl rfl rfl ?_
  intro L
  walk_at "W"; walk_at "T"
  walk_at "W"
  refine C_str_str (ret_of h)

theorem plus_text {C : Cx} (X : Cok C) {n : Nat} {k : Int} {a b : PyData} {x y : Str} (h1 : Gives C n "put" [.dat a, .dat (.int 8)] (.dat (.str x))) (h2 : Gives C n "put" [.dat b, .dat (.int 9)] (.dat (.str y))) (hx : x.length ≤ 1000) (hy : y.length ≤ 1000) (hn : 1 ≤ n) :
    Gives C (n + 1) "two_text" [.dat (.tuple [.str "bin", .int k, .str "+", a, b])] (.dat (.str (x ++ " " ++ "+" ++ " " ++ y))) := by
  intro mu K h
  refine enter X ["node"] (by rfl) (by rfl) (by rfl) (by rfl) rfl (bind1 rfl (fun _ => by rfl)) (by decide) (by decide) rfl rfl rfl ?_
  intro L
  walk_at "W"
  refine S_swap ["sign", "level"] (by rfl) ?_
  walk_at "W"
  refine (two_plus X (n := 0)).le hn _ _ ?_
  walk_at "W"
  refine ⟨rfl, by walk_at "len", ?_⟩
  refine A_bind (A_bind (A_nil ?_))
  walk_at "W"; walk_at "Q"
  walk_at "W"; walk_at "Q"
  walk_at "W"; walk_at "ite"
  walk_at "W"; walk_at "Q"
  walk_at "W"; walk_at "Q"
  walk_at "W"; walk_at "Q"
  walk_at "W"
  refine h1 _ _ ?_
  walk_at "W"
  refine O_add_str (by walk_at "sz") ?_
  walk_at "W"
  refine O_add_str (by walk_at "sz") ?_
  walk_at "W"
  refine O_add_str (by walk_at "sz") ?_
  walk_at "W"
  refine h2 _ _ ?_
  refine O_add_str (by walk_at "sz") ?_
  walk_at "W"
  exact ret_of h

theorem pre_ps (hd : Str) (l : List Str) (x : Str) : cat (Sm.ps ⟨hd, l ++ [x]⟩) = cat (Sm.ps ⟨hd, l⟩) ++ " " ++ "+" ++ " " ++ x := by
  show cat (hd :: (l ++ [x]).flatMap _) = cat (hd :: l.flatMap _) ++ " " ++ "+" ++ " " ++ x
  rw [List.flatMap_append]
  show cat (hd :: (_ ++ ([" ", "+", " ", x] : List Str))) = _
  walk_at "cat"
theorem plus_node {C : Cx} (X : Cok C) {n : Nat} {k : Int} {a b : PyData} {t : Str} (h1 : Gives C n "two_text" [.dat (.tuple [.str "bin", .int k, .str "+", a, b])] (.dat (.str t))) :
    Gives C (n + 1) "node_text" [.dat (.tuple [.str "bin", .int k, .str "+", a, b])] (.dat (.str t)) := by
  intro mu K h
  refine enter X ["node"] (by rfl) (by rfl) (by rfl) (by rfl) rfl (bind1 rfl (fun _ => by rfl)) (by decide) (by decide) rfl rfl rfl ?_
  intro L
  walk_at "W"; walk_at "T"
  walk_at "W"; walk_at "T"
  walk_at "W"; walk_at "Q"
  walk_at "W"; walk_at "Q"
  walk_at "W"
  exact h1 _ _ (ret_of h)
/-- sums: the text, the level -/
theorem sum_both {C : Cx} (X : Cok C) {n : Nat} (hd : Str) : ∀ (l : List Str), (∀ m, (cat (Sm.ps ⟨hd, l.take m⟩)).length ≤ 1000) → (∀ x ∈ l, x.length ≤ 1000) →
    Gives C (n + 3 * l.length + 2) "node_text" [.dat (Sm.d ⟨hd, l⟩)] (.dat (.str (cat (Sm.ps ⟨hd, l⟩)))) ∧ ∃ lv, 8 ≤ lv ∧ Gives C (n + 3 * l.length + 2) "level_of" [.dat (Sm.d ⟨hd, l⟩)] (.dat (.int lv)) := by
  intro l
  generalize hk : l.length = k
  induction k generalizing l with
  | zero =>
    intro _ _
    rw [List.eq_nil_of_length_eq_zero hk]
    refine ⟨?_, 18, by decide, level_name X⟩
    show Gives C _ _ _ (.dat (.str (cat [hd])))
    rw [show cat [hd] = hd from cat_one hd]
    exact (name_text X (n := n + 1) (k := 3) (x := hd))
  | succ k ih =>
    intro h1 h2
    obtain ⟨r, x, rfl⟩ : ∃ r x, l = r ++ [x] := ⟨l.dropLast, l.getLast (fun q => by rw [q] at hk; cases hk), (List.dropLast_concat_getLast _).symm⟩
    have hr : r.length = k := by simpa using hk
    have e : Sm.d ⟨hd, r ++ [x]⟩ = .tuple [.str "bin", .int 4, .str "+", Sm.d ⟨hd, r⟩, nameD 5 x] := smF_snoc x r _
    obtain ⟨g1, lv, hlv, g2⟩ := ih r hr (fun m => by
      have := h1 (min m r.length)
      rwa [List.take_append_of_le_length (Nat.min_le_right _ _), List.take_eq_take_min.symm] at this) (fun y hy => h2 y (List.mem_append_left _ hy))
    have p1 : Gives C (n + 3 * k + 3) "put" [.dat (Sm.d ⟨hd, r⟩), .dat (.int 8)] (.dat (.str (cat (Sm.ps ⟨hd, r⟩)))) := put_ok X g1 g2 hlv
    have p2 : Gives C (n + 3 * k + 3) "put" [.dat (nameD 5 x), .dat (.int 9)] (.dat (.str x)) := put_ok X ((name_text X (n := n + 3 * k)).le (by omega)) (level_name X) (by decide)
    have hl0 := h1 r.length
    rw [List.take_append_of_le_length (Nat.le_refl _), List.take_length] at hl0
    have t1 := plus_text X (k := 4) p1 p2 hl0 (h2 x (by simp)) (by omega)
    rw [e, pre_ps]
    refine ⟨(plus_node X t1).le (by omega), 8, by decide, (level_plus X (n := n + 3 * k)).le (by omega)⟩
theorem sum_text {C : Cx} (X : Cok C) {n : Nat} {s : Sm} (h : s.Ok) : Gives C (n + 8) "node_text" [.dat s.d] (.dat (.str (cat s.ps))) ∧ ∀ least, least ≤ 8 → Gives C (n + 9) "put" [.dat s.d, .dat (.int least)] (.dat (.str (cat s.ps))) := by
  obtain ⟨hd, l⟩ := s
  obtain ⟨h1, h2, h3⟩ := h
  have hlen : l.length ≤ 2 := h3
  obtain ⟨g1, lv, hlv, g2⟩ := sum_both X (n := n) hd l (fun m => Nat.le_trans (Sm.len (s := ⟨hd, l.take m⟩) ⟨h1, fun x hx => h2 x (List.mem_of_mem_take hx), by
      show (l.take m).length ≤ 2
      rw [List.length_take]; omega⟩) (by decide)) (fun x hx => Nat.le_trans (str_len_of (n := 1) (h2 x hx) (by decide +kernel)) (by decide))
  exact ⟨g1.le (by omega), fun least hle => put_ok X (g1.le (by omega)) (g2.le (by omega)) (by omega)⟩
end
section
set_option maxRecDepth 100000
set_option maxHeartbeats 400000
theorem gg_len {g : Str} (h : g ∈ GG) : g.length ≤ 4 := str_len_of (n := 4) h (by decide +kernel)
theorem gg_cases {P : Str → Prop} {g : Str} (h : g ∈ GG) (h1 : P "some") (h2 : P "no") (h3 : P "lone") (h4 : P "one") : P g := by
  simp only [GG, List.mem_cons, List.not_mem_nil, or_false] at h
  rcases h with rfl | rfl | rfl | rfl <;> assumption
theorem one_text_ok {C : Cx} (X : Cok C) {n : Nat} {k : Int} {g t : Str} {d : PyData} (hg : g ∈ GG) (h1 : Gives C n "put" [.dat d, .dat (.int 7)] (.dat (.str t))) (ht : t.length ≤ 1000) (hn : 1 ≤ n) :
    Gives C (n + 1) "one_text" [.dat (.tuple [.str "un", .int k, .str g, d])] (.dat (.str (g ++ " " ++ t))) := by
  have hgl := gg_len hg
  obtain ⟨v, hv, hrd⟩ := mults_rd X
  have e1 : ([.str "some", .str "no", .str "lone", .str "one", .str "set"] : List PyData).any (fun y => PyData.eqv y (.str g)) = true := gg_cases (P := fun g => ([.str "some", .str "no", .str "lone", .str "one", .str "set"] : List PyData).any (fun y => PyData.eqv y (.str g)) = true) hg (by rfl) (by rfl) (by rfl) (by rfl)
  have e2 : PyData.eqv (.str g) (.str "-") = false := gg_cases (P := fun g => PyData.eqv (.str g) (.str "-") = false) hg (by rfl) (by rfl) (by rfl) (by rfl)
  have e3 : PyData.strOk g = true := gg_cases (P := fun g => PyData.strOk g = true) hg (by decide +kernel) (by decide +kernel) (by decide +kernel) (by decide +kernel)
  intro mu K h
  refine enter X ["node"] (by rfl) (by rfl) (by rfl) (by rfl) rfl (bind1 rfl (fun _ => by rfl)) (by decide) (by decide) rfl rfl rfl ?_
  intro L
  walk_at "W"
  refine S_swap ["sign", "level"] (by rfl) ?_
  walk_at "W"
  refine (level_of_one_ok X (n := 0) hg).le hn _ _ ?_
  walk_at "W"
  refine ⟨rfl, by walk_at "len", ?_⟩
  refine A_bind (A_bind (A_nil ?_))
  walk_at "W"
  refine E_glob hv hrd ?_
  refine O_in_tup (by walk_at "can") (by walk_at "sh") ⟨_, rfl, ite_t e1 ?_⟩
  walk_at "W"
  refine O_add_str (by walk_at "sz") ?_
  walk_at "W"
  refine O_ne (by walk_at "sh") (by walk_at "sh") ⟨_, rfl, ite_t (by rw [e2]; rfl) ?_⟩
  walk_at "W"
  refine h1 _ _ ?_
  refine O_add_str (by walk_at "sz") ?_
  exact ret_of h

theorem in_text_ok {C : Cx} (X : Cok C) {n : Nat} {k : Int} {a b : PyData} {x y : Str} (h1 : Gives C n "put" [.dat a, .dat (.int 7)] (.dat (.str x))) (h2 : Gives C n "put" [.dat b, .dat (.int 7)] (.dat (.str y))) (hx : x.length ≤ 1000) (hy : y.length ≤ 1000) (hn : 1 ≤ n) :
    Gives C (n + 1) "two_text" [.dat (.tuple [.str "bin", .int k, .str "in", a, b])] (.dat (.str (x ++ " " ++ "in" ++ " " ++ y))) := by
  intro mu K h
  refine enter X ["node"] (by rfl) (by rfl) (by rfl) (by rfl) rfl (bind1 rfl (fun _ => by rfl)) (by decide) (by decide) rfl rfl rfl ?_
  intro L
  walk_at "W"
  refine S_swap ["sign", "level"] (by rfl) ?_
  walk_at "W"
  refine (two_in X (n := 0)).le hn _ _ ?_
  walk_at "W"
  refine ⟨rfl, by walk_at "len", ?_⟩
  refine A_bind (A_bind (A_nil ?_))
  walk_at "W"; walk_at "Q"
  walk_at "W"; walk_at "Q"
  walk_at "ite"
  walk_at "W"; walk_at "Q"
  walk_at "W"; walk_at "Q"
  walk_at "W"
  refine h1 _ _ ?_
  walk_at "W"
  refine O_add_str (by walk_at "sz") ?_
  walk_at "W"
  refine O_add_str (by walk_at "sz") ?_
  walk_at "W"
  refine O_add_str (by walk_at "sz") ?_
  walk_at "W"
  refine h2 _ _ ?_
  refine O_add_str (by walk_at "sz") ?_
  walk_at "W"
  exact ret_of h

theorem claim_text {C : Cx} (X : Cok C) {n : Nat} {c : Cl} (hc : c.Ok) : Gives C (n + 11) "node_text" [.dat c.d] (.dat (.str (cat c.ps))) := by
  cases c with
  | un g s =>
    have t := one_text_ok X (k := 6) hc.1 ((sum_text X (n := n) hc.2).2 7 (by decide)) (Nat.le_trans (Sm.len hc.2) (by decide)) (by omega)
    intro mu K h
    show FnOk C _ _ mu [.dat (.tuple [.str "un", .int 6, .str g, s.d])] K
    refine enter X ["node"] (by rfl) (by rfl) (by rfl) (by rfl) rfl (bind1 rfl (fun _ => by rfl)) (by decide) (by decide) rfl rfl rfl ?_
    intro L
    walk_at "W"; walk_at "T"
    walk_at "W"; walk_at "T"
    walk_at "W"; walk_at "Q"
    walk_at "W"
    refine t _ _ (ret_to h ?_)
    show _ = cat (g :: " " :: s.ps)
    walk_at "cat"
  | inn a b =>
    have t := in_text_ok X (k := 7) ((sum_text X (n := n) hc.1).2 7 (by decide)) ((sum_text X (n := n) hc.2).2 7 (by decide)) (Nat.le_trans (Sm.len hc.1) (by decide)) (Nat.le_trans (Sm.len hc.2) (by decide)) (by omega)
    intro mu K h
    show FnOk C _ _ mu [.dat (.tuple [.str "bin", .int 7, .str "in", a.d, b.d])] K
    refine enter X ["node"] (by rfl) (by rfl) (by rfl) (by rfl) rfl (bind1 rfl (fun _ => by rfl)) (by decide) (by decide) rfl rfl rfl ?_
    intro L
    walk_at "W"; walk_at "T"
    walk_at "W"; walk_at "T"
    walk_at "W"; walk_at "Q"
    walk_at "W"; walk_at "Q"
    walk_at "W"
    refine t _ _ (ret_to h ?_)
    show _ = cat (a.ps ++ ([" ", "in", " "] : List Str) ++ b.ps)
    walk_at "cat"
end
section
set_option maxRecDepth 100000
set_option maxHeartbeats 400000
theorem cl_starts {c : Cl} (h : c.Ok) : Txt.startswith (cat c.ps) "-" = false := by
  have key : ∀ (l : List Str) (x r : Str), x ∈ l → l.all (fun y => (y.cps.toList.head?.any (fun c => c != 45))) = true → Txt.startswith (x ++ r) "-" = false := by
    intro l x r hx hl
    have := List.all_eq_true.mp hl x hx
    cases e : x.cps.toList with
    | nil => rw [e] at this; simp at this
    | cons c q => rw [e] at this; exact starts_no e (by simpa using this)
  cases c with
  | un g s => exact key ["some", "no", "lone", "one"] g _ h.1 (by decide +kernel)
  | inn a b =>
    show Txt.startswith (cat (a.ps ++ ([" ", "in", " "] : List Str) ++ b.ps)) "-" = false
    show Txt.startswith (a.hd ++ cat _) "-" = false
    exact key ["A", "B", "f", "x"] _ _ h.1.hd (by decide +kernel)
theorem sum_of_join {l : List Str} {x : Str} (h : ∀ y ∈ l, y.length ≤ 100) (hl : l.length ≤ 100) (hx : x.length ≤ 10) : (l.map (·.length)).sum + l.length * x.length ≤ 16777216 := by
  have h1 := sum_len h
  have h2 : l.length * x.length ≤ l.length * 10 := Nat.mul_le_mul_left _ hx
  omega

theorem nodes_text_ok {C : Cx} (X : Cok C) {n : Nat} {cs : List Cl} (hc : Cls cs) : Gives C (n + 12) "nodes_text" [.dat (clsD cs)] (.dat (.str (cat (nodesP cs)))) := by
  intro mu K h
  refine enter X ["nodes"] (by rfl) (by rfl) (by rfl) (by rfl) rfl (bind1 rfl (fun _ => by rfl)) (by decide) (by decide) rfl rfl rfl ?_
  intro L
  have hl : cs.length ≤ 2 := hc.2
  walk_at "W"
  refine S_assign_comp [] (fun _ i acc m => m = mu ∧ acc = (cs.take i).map fun c => .str (cat c.ps)) ?_
  refine Src_tup ?_
  walk_at "W"
  refine ⟨_, rfl, CompOk.map cs Cl.d (fun c => .str (cat c.ps)) (by omega) (fun c hm acc L' => ?_) fun F hF => ?_⟩
  · refine As_name ?_
    show EvE _ _ _ _ _ _
    walk_at "W"
    exact claim_text X (n := n) (hc.1 c hm) _ _ ⟨_, rfl, rfl, rfl⟩
  walk_at "W"
  refine ⟨Ty_str, ?_⟩
  walk_at "W"
  refine E_comp [] (fun _ i acc m => m = drop (upd mu F (.list (cs.map fun c => .str (cat c.ps)))) F ∧ acc = (cs.take i).map fun c => .str (cat c.ps)) ?_
  refine Src_list ?_
  walk_at "W"
  refine ⟨F, _, rfl, upd_self _ _ _, CompOk.map cs (fun c => .str (cat c.ps)) (fun c => .str (cat c.ps)) (by omega) (fun c hm acc L' => ?_) fun G hG => ?_⟩
  · refine As_name ?_
    show EvE _ _ _ _ _ _
    walk_at "W"
    refine ⟨Ty_str, ?_⟩
    walk_at "W"
    refine C_starts ⟨_, rfl, ite_f (cl_starts (hc.1 c hm)) ?_⟩
    walk_at "W"
    exact ⟨_, rfl, rfl, rfl⟩
  walk_at "W"
  refine C_join (ys := (cs.map Cl.ps).map cat) ?_ (sum_of_join ?_ ?_ (by decide)) ?_
  · rw [upd_self]; simp only [List.map_map]; rfl
  · intro y hy
    rw [List.map_map] at hy
    obtain ⟨c, hcm, rfl⟩ := List.mem_map.mp hy
    exact Nat.le_trans (Cl.len (hc.1 c hcm)) (by decide)
  · simp only [List.length_map]; omega
  refine ret_le (((Le.refl mu).new hF).drop hF |>.new hG) ?_
  rw [show (Str.ofString " ") = cat ([" "] : List Str) from (cat_one " ").symm, join_cat]
  exact h
end
section
set_option maxRecDepth 100000
set_option maxHeartbeats 400000
theorem nodesP_len {cs : List Cl} (hc : Cls cs) : (cat (nodesP cs)).length ≤ 46 := by
  have h := sep_len (s := [" "]) (b := 22) (k := 1) (by decide +kernel) (l := cs.map Cl.ps) (fun x hx => by obtain ⟨c, hcm, rfl⟩ := List.mem_map.mp hx; exact Cl.len (hc.1 c hcm))
  rw [List.length_map] at h
  have : cs.length ≤ 2 := hc.2
  show (cat (sep [" "] _)).length ≤ 46
  omega
theorem declsP_len {ms : List Str} {cs : List Dc} (hc : Dcs ms cs) (hm : ∀ c ∈ cs, c.mult.length ≤ 4) : (cat (declsP cs)).length ≤ 60 := by
  have h := sep_len (s := [",", " "]) (b := 28) (k := 2) (by decide +kernel) (l := cs.map Dc.ps) (fun x hx => by obtain ⟨c, hcm, rfl⟩ := List.mem_map.mp hx; exact Dc.len (hc.1 c hcm) (hm c hcm))
  rw [List.length_map] at h
  have : cs.length ≤ 2 := hc.2
  show (cat (sep [",", " "] _)).length ≤ 60
  omega
theorem clsD_len {cs : List Cl} (hc : Cls cs) : (cs.map Cl.d).length ≤ sizeLine := by rw [List.length_map, sizeLine_eq]; have : cs.length ≤ 2 := hc.2; omega
theorem dec_zero {k : Nat} : decide ((0 : Int) < (k : Int)) = !decide (k = 0) := by
  cases k with
  | zero => rfl
  | succ k => simp
theorem block_text_ok {C : Cx} (X : Cok C) {n : Nat} {cs : List Cl} (hc : Cls cs) : Gives C (n + 13) "block_text" [.dat (clsD cs)] (.dat (.str (cat (blockP cs)))) := by
  intro mu K h
  refine enter X ["nodes"] (by rfl) (by rfl) (by rfl) (by rfl) rfl (bind1 rfl (fun _ => by rfl)) (by decide) (by decide) rfl rfl rfl ?_
  intro L
  have hl := nodesP_len hc
  walk_at "W"
  refine C_len_tup (clsD_len hc) ?_
  walk_at "W"
  refine ⟨_, rfl, ?_⟩
  rw [List.length_map, dec_zero]
  by_cases hz : cs.length = 0
  · rw [decide_eq_true hz]
    walk_at "ite"
    walk_at "W"
    refine ret_to h ?_
    rw [show blockP cs = (["{", " ", "}"] : List Str) from if_pos hz]
    walk_at "cat"
  · rw [decide_eq_false hz]
    walk_at "ite"
    walk_at "W"
    refine nodes_text_ok X (n := n) hc _ _ ?_
    refine O_add_str (by walk_at "sz") ?_
    walk_at "W"
    refine O_add_str (by walk_at "sz") ?_
    refine ret_to h ?_
    rw [show blockP cs = (["{", " "] : List Str) ++ nodesP cs ++ ([" ", "}"] : List Str) from if_neg hz]
    walk_at "cat"

theorem xyz_take (k : Nat) : xyz.take k = ((["x", "y", "z"] : List Str).take k).map .str := by rw [List.map_take]; rfl
theorem eqv_str {x y : Str} : PyData.eqv (.str x) (.str y) = (x == y) := by rw [PyData.eqv]
theorem decl_text_ok {C : Cx} (X : Cok C) {n : Nat} {ms : List Str} {c : Dc} (hc : c.Ok ms) (hm : c.mult.length ≤ 4) (hmo : PyData.strOk c.mult = true) : Gives C (n + 10) "decl_text" [.dat c.d] (.dat (.str (cat c.ps))) := by
  obtain ⟨disj, k, m, s⟩ := c
  have hm : m.length ≤ 4 := hm
  have hmo : PyData.strOk m = true := hmo
  have hs : (cat s.ps).length ≤ 9 := Sm.len hc.s
  have hn : (cat (namesP ((["x", "y", "z"] : List Str).take k))).length ≤ 7 := by
    have h1 : 1 ≤ k := hc.lo
    have h2 : k ≤ 3 := hc.hi
    obtain h | h | h : k = 1 ∨ k = 2 ∨ k = 3 := by omega
    all_goals subst h; decide +kernel
  intro mu K h
  show FnOk C _ _ mu [.dat (.tuple [.int 8, .bool disj, .tuple (xyz.take k), .str m, s.d])] K
  refine enter X ["decl"] (by rfl) (by rfl) (by rfl) (by rfl) rfl (bind1 rfl (fun _ => by rfl)) (by decide) (by decide) rfl rfl rfl ?_
  intro L
  walk_at "W"
  refine S_unpack ?_
  walk_at "W"
  refine ⟨_, rfl, ?_⟩
  walk_at "W"
  refine Z_tup 1 5 (by walk_at "len") (.inr ⟨1, rfl, rfl⟩) (.inl ⟨rfl, rfl⟩) ?_
  refine ⟨_, rfl, rfl, ?_⟩
  refine A_name (A_name (A_name (A_name (A_nil ?_))))
  walk_at "W"
  refine O_ne (by walk_at "sh") (by walk_at "sh") ⟨_, rfl, ?_⟩
  rw [eqv_str]
  refine ite_to (.dat (.str (cat (multP m)))) (fun e => ?_) (fun e => ?_) ?_
  · walk_at "W"
    refine O_add_str (by walk_at "sz") (to_str ?_)
    rw [show multP m = ([m, " "] : List Str) from if_neg fun q => by rw [q] at e; simp at e]
    walk_at "cat"
  · walk_at "W"
    refine to_str ?_
    rw [show multP m = [] from if_pos (by simpa using e)]
    walk_at "cat"
  have hml := multP_len (m := m)
  walk_at "W"
  refine ⟨_, rfl, ?_⟩
  refine ite_to (.dat (.str (cat (if disj = true then (["disj", " "] : List Str) else [])))) (fun e => ?_) (fun e => ?_) ?_
  · walk_at "W"
    refine to_str ?_
    rw [e, if_pos rfl]
    walk_at "cat"
  · walk_at "W"
    refine to_str ?_
    rw [e, if_neg (by simp)]
    walk_at "cat"
  have hdl : (cat (if disj = true then (["disj", " "] : List Str) else [])).length ≤ 5 := by cases disj <;> decide +kernel
  walk_at "W"
  refine ⟨Ty_str, ?_⟩
  walk_at "W"
  rw [xyz_take, ← cat_ones ((["x", "y", "z"] : List Str).take k)]
  refine C_joinT (sum_of_join ?_ ?_ (by decide)) ?_
  · rw [cat_ones]
    intro y hy
    have := List.mem_of_mem_take hy
    exact Nat.le_trans (str_len_of (n := 1) this (by decide +kernel)) (by decide)
  · rw [cat_ones, List.length_take]; exact Nat.le_trans (Nat.min_le_right _ _) (by decide)
  rw [show (Str.ofString ", ") = cat ([",", " "] : List Str) by decide +kernel, join_cat]
  show Op2 _ _ _ _ _ (.dat (.str (cat (namesP _)))) _
  refine O_add_str (by rw [sizeLine_eq]; omega) ?_
  walk_at "W"
  refine O_add_str (by walk_at "sz") ?_
  walk_at "W"
  refine O_add_str (by walk_at "sz") ?_
  walk_at "W"
  refine (sum_text X (n := n) hc.s).2 8 (by decide) _ _ ?_
  refine O_add_str (by walk_at "sz") ?_
  refine ret_to h ?_
  show _ = cat (_ ++ _ ++ ([":", " "] : List Str) ++ _ ++ _)
  walk_at "cat"
end
section
set_option maxRecDepth 100000
set_option maxHeartbeats 400000
def Ms (ms : List Str) : Prop := ms.all (fun m => decide (m.length ≤ 4) && PyData.strOk m) = true
theorem Ms.len {ms : List Str} (h : Ms ms) {m : Str} (hm : m ∈ ms) : m.length ≤ 4 := by
  have := List.all_eq_true.mp h m hm
  rw [Bool.and_eq_true] at this
  exact of_decide_eq_true this.1
theorem Ms.ok {ms : List Str} (h : Ms ms) {m : Str} (hm : m ∈ ms) : PyData.strOk m = true := by
  have := List.all_eq_true.mp h m hm
  rw [Bool.and_eq_true] at this
  exact this.2
theorem decls_text_ok {C : Cx} (X : Cok C) {n : Nat} {ms : List Str} {cs : List Dc} (hc : Dcs ms cs) (hm : Ms ms) : Gives C (n + 11) "decls_text" [.dat (dcsD cs)] (.dat (.str (cat (declsP cs)))) := by
  intro mu K h
  refine enter X ["decls"] (by rfl) (by rfl) (by rfl) (by rfl) rfl (bind1 rfl (fun _ => by rfl)) (by decide) (by decide) rfl rfl rfl ?_
  intro L
  have hl : cs.length ≤ 2 := hc.2
  walk_at "W"
  refine ⟨Ty_str, ?_⟩
  walk_at "W"
  refine E_comp [] (fun _ i acc m => m = mu ∧ acc = (cs.take i).map fun c => .str (cat c.ps)) ?_
  refine Src_tup ?_
  walk_at "W"
  refine ⟨_, rfl, CompOk.map cs Dc.d (fun c => .str (cat c.ps)) (by omega) (fun c hcm acc L' => ?_) fun F hF => ?_⟩
  · refine As_name ?_
    show EvE _ _ _ _ _ _
    walk_at "W"
    exact decl_text_ok X (n := n) (hc.1 c hcm) (hm.len (hc.1 c hcm).mult) (hm.ok (hc.1 c hcm).mult) _ _ ⟨_, rfl, rfl, rfl⟩
  walk_at "W"
  refine C_join (ys := (cs.map Dc.ps).map cat) ?_ (sum_of_join ?_ ?_ (by decide)) ?_
  · rw [upd_self]; simp only [List.map_map]; rfl
  · intro y hy
    rw [List.map_map] at hy
    obtain ⟨c, hcm, rfl⟩ := List.mem_map.mp hy
    exact Nat.le_trans (Dc.len (hc.1 c hcm) (hm.len (hc.1 c hcm).mult)) (by decide)
  · simp only [List.length_map]; omega
  refine ret_le ((Le.refl mu).new hF) ?_
  rw [show (Str.ofString ", ") = cat ([",", " "] : List Str) by decide +kernel, join_cat]
  exact h
theorem dcs_len {ms : List Str} {cs : List Dc} (hc : Dcs ms cs) : (cs.map Dc.d).length ≤ sizeLine := by rw [List.length_map, sizeLine_eq]; have : cs.length ≤ 2 := hc.2; omega
theorem params_text_ok {C : Cx} (X : Cok C) {n : Nat} {ms : List Str} {cs : List Dc} (hc : Dcs ms cs) (hm : Ms ms) : Gives C (n + 12) "params_text" [.dat (dcsD cs)] (.dat (.str (cat (paramsP cs)))) := by
  intro mu K h
  refine enter X ["params"] (by rfl) (by rfl) (by rfl) (by rfl) rfl (bind1 rfl (fun _ => by rfl)) (by decide) (by decide) rfl rfl rfl ?_
  intro L
  have hl := declsP_len hc fun c hcm => hm.len (hc.1 c hcm).mult
  walk_at "W"
  refine C_len_tup (dcs_len hc) ?_
  walk_at "W"
  refine ⟨_, rfl, ?_⟩
  rw [List.length_map, dec_zero]
  by_cases hz : cs.length = 0
  · rw [decide_eq_true hz]
    walk_at "ite"
    walk_at "W"
    refine ret_to h ?_
    rw [show paramsP cs = [] from if_pos hz]
    walk_at "cat"
  · rw [decide_eq_false hz]
    walk_at "ite"
    walk_at "W"
    refine decls_text_ok X (n := n) hc hm _ _ ?_
    refine O_add_str (by walk_at "sz") ?_
    walk_at "W"
    refine O_add_str (by walk_at "sz") ?_
    refine ret_to h ?_
    rw [show paramsP cs = (["["] : List Str) ++ declsP cs ++ (["]"] : List Str) from if_neg hz]
    walk_at "cat"

theorem numsP_len {us : List Nu} (h : ∀ u ∈ us, u.Ok) (hl : us.length ≤ 2) : (cat (numsP us)).length ≤ 28 := by
  have h := sep_len (s := [",", " "]) (b := 12) (k := 2) (by decide +kernel) (l := us.map Nu.ps) (fun x hx => by obtain ⟨c, hcm, rfl⟩ := List.mem_map.mp hx; exact Nu.len (h c hcm))
  rw [List.length_map] at h
  show (cat (sep [",", " "] _)).length ≤ 28
  omega
theorem dec_lt {i : Int} (h : i < 0) : decide (i < 0) = true := decide_eq_true h
theorem scope_text_ok {C : Cx} (X : Cok C) {n : Nat} {s : Sc} (hs : s.Ok) : Gives C (n + 1) "scope_text" [.dat s.d] (.dat (.str (cat s.ps))) := by
  obtain ⟨k, us⟩ := s
  obtain ⟨k0, k1, hu, hl⟩ := hs
  have k0 : -1 ≤ k := k0
  have k1 : k ≤ 3 := k1
  have hu : ∀ u ∈ us, u.Ok := hu
  have hl : us.length ≤ 2 := hl
  have hnl := numsP_len hu hl
  intro mu K h
  show FnOk C _ _ mu [.dat (.tuple [.int k, .tuple (us.map Nu.d)])] K
  refine enter X ["scope"] (by rfl) (by rfl) (by rfl) (by rfl) rfl (bind1 rfl (fun _ => by rfl)) (by decide) (by decide) rfl rfl rfl ?_
  intro L
  walk_at "W"
  refine S_unpack ?_
  walk_at "W"
  refine ⟨_, rfl, rfl, ?_⟩
  refine A_name (A_name (A_nil ?_))
  walk_at "W"
  refine S_assign_comp [] (fun _ i acc m => m = mu ∧ acc = (us.take i).map fun c => .str (cat c.ps)) ?_
  refine Src_tup ?_
  walk_at "W"
  refine ⟨_, rfl, CompOk.map us Nu.d (fun c => .str (cat c.ps)) (by omega) (fun c hcm acc L' => ?_) fun F hF => ?_⟩
  · obtain ⟨ex, num, g⟩ := c
    have ho := hu _ hcm
    have h1 : (decS num).length ≤ 2 := decS_len ho.lo ho.hi
    have h2 : g.length ≤ 1 := str_len_of (n := 1) ho.sig (by decide +kernel)
    have n0 : 0 ≤ num := ho.lo
    have n1 : num < 12 := ho.hi
    show CompTurn C n _ _ _ _ (.tuple [.bool ex, .int num, .str g]) _ _ _
    refine As_tup rfl ?_
    refine A_name (A_name (A_name (A_nil ?_)))
    show EvE _ _ _ _ _ _
    walk_at "W"
    refine ⟨_, rfl, ?_⟩
    refine ite_to (.dat (.str (cat (if ex = true then (["exactly", " "] : List Str) else [])))) (fun e => ?_) (fun e => ?_) ?_
    · walk_at "W"
      refine to_str ?_
      rw [e, if_pos rfl]
      walk_at "cat"
    · walk_at "W"
      refine to_str ?_
      rw [e, if_neg (by simp)]
      walk_at "cat"
    have hdl : (cat (if ex = true then (["exactly", " "] : List Str) else [])).length ≤ 8 := by cases ex <;> decide +kernel
    walk_at "W"
    refine C_str_int n0 (by omega) ?_
    show Op2 _ _ _ _ _ (.dat (.str (decS num))) _
    refine O_add_str (by walk_at "sz") ?_
    walk_at "W"
    refine O_add_str (by walk_at "sz") ?_
    walk_at "W"
    refine O_add_str (by walk_at "sz") ?_
    refine ⟨_, rfl, rfl, ?_⟩
    show acc ++ [PyData.str _] = acc ++ [PyData.str (cat (_ ++ ([decS num, " ", g] : List Str)))]
    congr 3
    walk_at "cat"
  have hj : ∀ (K' : PV → Mu → Prop) (m : Nat), K' (.dat (.str (cat (numsP us)))) (upd mu F (.list (us.map fun c => .str (cat c.ps)))) → CallOk C m (upd mu F (.list (us.map fun c => .str (cat c.ps)))) (.builtin "str.join") [.dat (.str (Str.ofString ", ")), .ref F] K' := fun K' m hK => by
    refine C_join (ys := (us.map Nu.ps).map cat) ?_ (sum_of_join ?_ ?_ (by decide)) ?_
    · rw [upd_self]; simp only [List.map_map]; rfl
    · intro y hy
      rw [List.map_map] at hy
      obtain ⟨c, hcm, rfl⟩ := List.mem_map.mp hy
      exact Nat.le_trans (Nu.len (hu c hcm)) (by decide)
    · simp only [List.length_map]; omega
    rw [show (Str.ofString ", ") = cat ([",", " "] : List Str) by decide +kernel, join_cat]
    exact hK
  have hle : Le mu (upd mu F (.list (us.map fun c => .str (cat c.ps)))) := (Le.refl mu).new hF
  have hFm : upd mu F (.list (us.map fun c => .str (cat c.ps))) F = some (.list (us.map fun c => .str (cat c.ps))) := upd_self _ _ _
  generalize upd mu F (.list (us.map fun c => .str (cat c.ps))) = m1 at hj hle hFm
  have hFl : (us.map fun c => PyData.str (cat c.ps)).length ≤ sizeLine := by rw [List.length_map, sizeLine_eq]; omega
  walk_at "W"
  refine ⟨_, rfl, ?_⟩
  by_cases hk : k < 0
  · rw [dec_lt hk]
    walk_at "ite"
    walk_at "W"
    refine C_len_list hFm hFl ?_
    walk_at "W"
    refine ⟨_, rfl, ?_⟩
    rw [List.length_map, dec_zero]
    by_cases hz : us.length = 0
    · rw [decide_eq_true hz]
      walk_at "ite"
      walk_at "W"
      refine ret_le hle (str_to h ?_)
      rw [show Sc.ps ⟨k, us⟩ = [] from by unfold Sc.ps; rw [if_pos hk, if_pos hz]]
      walk_at "cat"
    · rw [decide_eq_false hz]
      walk_at "ite"
      walk_at "W"
      refine ⟨Ty_str, ?_⟩
      walk_at "W"
      refine hj _ _ ?_
      refine O_add_str (by walk_at "sz") ?_
      refine ret_le hle (str_to h ?_)
      rw [show Sc.ps ⟨k, us⟩ = ([" ", "for", " "] : List Str) ++ numsP us from by unfold Sc.ps; rw [if_pos hk, if_neg hz]]
      walk_at "cat"
  · rw [decide_eq_false hk]
    walk_at "ite"
    have h1 : (decS k).length ≤ 2 := decS_len (by omega) (by omega)
    walk_at "W"
    refine C_str_int (by omega) (by omega) ?_
    show Op2 _ _ _ _ _ (.dat (.str (decS k))) _
    refine O_add_str (by walk_at "sz") ?_
    walk_at "W"
    refine C_len_list hFm hFl ?_
    walk_at "W"
    refine ⟨_, rfl, ?_⟩
    rw [List.length_map, dec_zero]
    by_cases hz : us.length = 0
    · rw [decide_eq_true hz]
      walk_at "ite"
      walk_at "W"
      refine O_add_str (by walk_at "sz") ?_
      refine ret_le hle (str_to h ?_)
      rw [show Sc.ps ⟨k, us⟩ = ([" ", "for", " ", decS k] : List Str) ++ [] from by unfold Sc.ps; rw [if_neg hk, if_pos hz]]
      walk_at "cat"
    · rw [decide_eq_false hz]
      walk_at "ite"
      walk_at "W"
      refine ⟨Ty_str, ?_⟩
      walk_at "W"
      refine hj _ _ ?_
      refine O_add_str (by walk_at "sz") ?_
      refine O_add_str (by walk_at "sz") ?_
      refine ret_le hle (str_to h ?_)
      rw [show Sc.ps ⟨k, us⟩ = ([" ", "for", " ", decS k] : List Str) ++ (([" ", "but", " "] : List Str) ++ numsP us) from by unfold Sc.ps; rw [if_neg hk, if_neg hz]]
      walk_at "cat"
end
section
set_option maxRecDepth 100000
set_option maxHeartbeats 400000
theorem paramsP_len {ms : List Str} {cs : List Dc} (hc : Dcs ms cs) (hm : Ms ms) : (cat (paramsP cs)).length ≤ 62 := by
  have h1 := declsP_len hc fun c hcm => hm.len (hc.1 c hcm).mult
  unfold paramsP
  split
  · exact Nat.zero_le _
  · rw [cat_app, cat_app, Str.length_append, Str.length_append, show (cat (["["] : List Str)).length = 1 from rfl, show (cat (["]"] : List Str)).length = 1 from rfl]
    omega
theorem blockP_len {cs : List Cl} (hc : Cls cs) : (cat (blockP cs)).length ≤ 50 := by
  have h1 := nodesP_len hc
  unfold blockP
  split
  · decide +kernel
  · rw [cat_app, cat_app, Str.length_append, Str.length_append, show (cat (["{", " "] : List Str)).length = 2 from rfl, show (cat ([" ", "}"] : List Str)).length = 2 from rfl]
    omega
theorem scP_len {s : Sc} (hs : s.Ok) : (cat s.ps).length ≤ 50 := by
  have h1 := numsP_len hs.nums hs.len
  have h3 := hs.lo
  have h4 := hs.hi
  unfold Sc.ps
  split
  · split
    · exact Nat.zero_le _
    · rw [cat_app, Str.length_append, show (cat ([" ", "for", " "] : List Str)).length = 5 from rfl]
      omega
  · have h2 : (decS s.dflt).length ≤ 2 := decS_len (by omega) (by omega)
    have e1 : (cat ([" ", "for", " ", decS s.dflt] : List Str)).length ≤ 7 := by
      rw [cat_len]
      show 1 + (3 + (1 + ((decS s.dflt).length + 0))) ≤ 7
      omega
    rw [cat_app, Str.length_append]
    split
    · rw [show (cat []).length = 0 from rfl]; omega
    · rw [cat_app, Str.length_append, show (cat ([" ", "but", " "] : List Str)).length = 5 from rfl]
      omega

theorem command_ok {C : Cx} (X : Cok C) {n : Nat} {kind name : Str} {nodes : Option (List Cl)} {sc : Sc} {ex : Int} (h : (It.cmd kind name nodes sc ex).Ok) : Gives C (n + 14) "command_text" [.dat (It.cmd kind name nodes sc ex).d] (.dat (.str (cat (It.cmd kind name nodes sc ex).ps))) := by
  obtain ⟨hk, hn, hs, x0, x1⟩ := h
  have hkl : kind.length ≤ 5 := str_len_of (n := 5) hk (by decide +kernel)
  have hsl := scP_len hs
  have hw : (cat (whatP name nodes)).length ≤ 50 := by
    rcases hn with ⟨rfl, hn⟩ | ⟨cs, rfl, hc, rfl⟩
    · show (cat (one name)).length ≤ 50
      rw [cat_one]
      exact Nat.le_trans (str_len_of (n := 2) hn (by decide +kernel)) (by decide)
    · exact blockP_len hc
  intro mu K h
  show FnOk C _ _ mu [.dat (.tuple [.str kind, .int 9, .str name, nodesD nodes, sc.d, .int ex])] K
  refine enter X ["item"] (by rfl) (by rfl) (by rfl) (by rfl) rfl (bind1 rfl (fun _ => by rfl)) (by decide) (by decide) rfl rfl rfl ?_
  intro L
  walk_at "W"
  refine S_unpack ?_
  walk_at "W"
  refine ⟨rfl, by walk_at "len", [.str kind, .str name, nodesD nodes, sc.d, .int ex], rfl, rfl, ?_⟩
  refine A_name (A_name (A_name (A_name (A_name (A_nil ?_)))))
  walk_at "W"
  refine ⟨_, rfl, ?_⟩
  refine ite_to (.dat (.str (cat (whatP name nodes)))) (fun e => ?_) (fun e => ?_) ?_
  · walk_at "W"
    rcases hn with ⟨rfl, hn⟩ | ⟨cs, rfl, hc, rfl⟩
    · exact to_str (cat_one name).symm
    · cases e
  · walk_at "W"
    rcases hn with ⟨rfl, hn⟩ | ⟨cs, rfl, hc, rfl⟩
    · cases e
    · exact block_text_ok X (n := n) hc _ _ ⟨rfl, rfl⟩
  walk_at "W"
  refine O_add_str (by walk_at "sz") ?_
  walk_at "W"
  refine O_add_str (by walk_at "sz") ?_
  walk_at "W"
  refine (scope_text_ok X (n := 0) hs).le (by omega) _ _ ?_
  refine O_add_str (by walk_at "sz") ?_
  walk_at "W"
  refine ⟨_, rfl, ?_⟩
  have hel : (cat (if ex < 0 then [] else ([" ", "expect", " ", decS ex] : List Str))).length ≤ 10 := by
    split
    · exact Nat.zero_le _
    · have h1 : (decS ex).length ≤ 2 := decS_len (by omega) (by omega)
      rw [cat_len]
      show 1 + (6 + (1 + ((decS ex).length + 0))) ≤ 10
      omega
  refine ite_to (.dat (.str (cat (if ex < 0 then [] else ([" ", "expect", " ", decS ex] : List Str))))) (fun e => ?_) (fun e => ?_) ?_
  · have e := of_decide_eq_true e
    have h1 : (decS ex).length ≤ 2 := decS_len (by omega) (by omega)
    walk_at "W"
    refine C_str_int (by omega) (by omega) ?_
    show Op2 _ _ _ _ _ (.dat (.str (decS ex))) _
    refine O_add_str (by walk_at "sz") (to_str ?_)
    rw [if_neg (by omega)]
    walk_at "cat"
  · have e := of_decide_eq_false e
    walk_at "W"
    refine to_str ?_
    rw [if_pos (by omega)]
    walk_at "cat"
  refine O_add_str (by walk_at "sz") ?_
  refine ret_to h ?_
  show _ = cat (([kind, " "] : List Str) ++ _ ++ _ ++ _)
  walk_at "cat"

theorem take_strs (l : List Str) (k : Nat) (ds : List PyData) (h : ds = l.map .str) : ds.take k = ((l.take k).map one |>.map cat).map .str := by rw [h, cat_ones, List.map_take]
theorem join_take {C : Cx} {n : Nat} {mu : Mu} {K : PV → Mu → Prop} {l : List Str} (s : List Str) {x : Str} {k : Nat} (hx : x = cat s) (hl : l.length ≤ 5) (h1 : ∀ x ∈ l, x.length ≤ 1) (hs : (cat s).length ≤ 10) (h : K (.dat (.str (cat (sep s ((l.take k).map one))))) mu) :
    CallOk C n mu (.builtin "str.join") [.dat (.str x), .dat (.tuple ((((l.take k).map one).map cat).map .str))] K := by
  subst hx
  refine C_joinT (sum_of_join ?_ ?_ hs) (by rw [join_cat]; exact h)
  · rw [cat_ones]
    intro y hy
    exact Nat.le_trans (h1 y (List.mem_of_mem_take hy)) (by decide)
  · rw [cat_ones, List.length_take]; omega
def supP (parent : Str) (sup : Nat) : List Str := if parent = "" then (if sup = 0 then [] else ([" ", "in", " "] : List Str) ++ sep ([" ", "+", " "] : List Str) (((["A", "B"] : List Str).take sup).map one)) else ([" ", "extends", " ", parent] : List Str)
theorem eqv_ne {x y : Str} (h : x ≠ y) : (!PyData.eqv (.str x) (.str y)) = true := by rw [eqv_str]; simp [h]
theorem sig_ok {C : Cx} (X : Cok C) {n : Nat} {k : Nat} {abs : Bool} {mult parent : Str} {sup : Nat} {fields : List Dc} {facts : List Cl} (h : (It.sig k abs mult parent sup fields facts).Ok) :
    Gives C (n + 14) "sig_text" [.dat (It.sig k abs mult parent sup fields facts).d] (.dat (.str (cat (It.sig k abs mult parent sup fields facts).ps))) := by
  obtain ⟨k1, k2, hm, hp, hf, hfa⟩ := h
  have hml : mult.length ≤ 4 := str_len_of (n := 4) hm (by decide +kernel)
  have hmo : PyData.strOk mult = true := by
    simp only [List.mem_cons, List.not_mem_nil, or_false] at hm
    rcases hm with rfl | rfl | rfl | rfl <;> decide +kernel
  have hMs : Ms ["", "one", "lone", "some", "set"] := by unfold Ms; decide +kernel
  have hml2 := multP_len (m := mult)
  have hfl := declsP_len hf fun c hcm => hMs.len (hf.1 c hcm).mult
  have hbl := blockP_len hfa
  have hfac : facts.length ≤ 2 := hfa.2
  have hnl : (cat (namesP ((["S", "T"] : List Str).take k))).length ≤ 4 := by
    obtain h | h : k = 1 ∨ k = 2 := by omega
    all_goals subst h; decide +kernel
  have hpl : parent.length ≤ 1 := by rcases hp with ⟨rfl, _⟩ | ⟨rfl, _⟩ <;> decide +kernel
  have hpo : PyData.strOk parent = true := by rcases hp with ⟨rfl, _⟩ | ⟨rfl, _⟩ <;> decide +kernel
  have hsup : sup ≤ 2 := by rcases hp with ⟨_, h⟩ | ⟨_, h⟩ <;> omega
  have habs : (cat (if abs = true then (["abstract", " "] : List Str) else [])).length ≤ 9 := by cases abs <;> decide +kernel
  have hsl : (cat (sep ([" ", "+", " "] : List Str) (((["A", "B"] : List Str).take sup).map one))).length ≤ 5 := by
    obtain h | h | h : sup = 0 ∨ sup = 1 ∨ sup = 2 := by omega
    all_goals subst h; decide +kernel
  have hsp : (cat (supP parent sup)).length ≤ 20 := by
    unfold supP
    split
    · split
      · exact Nat.zero_le _
      · rw [cat_app, Str.length_append, show (cat ([" ", "in", " "] : List Str)).length = 4 from rfl]; omega
    · rw [cat_len]
      show 1 + (7 + (1 + (parent.length + 0))) ≤ 20
      omega
  intro mu K h
  show FnOk C _ _ mu [.dat (.tuple [.str "sig", .int 9, .tuple (SS.take k), .bool abs, .str mult, .str parent, .tuple (AB.take sup), dcsD fields, clsD facts])] K
  refine enter X ["item"] (by rfl) (by rfl) (by rfl) (by rfl) rfl (bind1 rfl (fun _ => by rfl)) (by decide) (by decide) rfl rfl rfl ?_
  intro L
  walk_at "W"
  refine S_unpack ?_
  walk_at "W"
  refine ⟨_, rfl, ?_⟩
  walk_at "W"
  refine Z_tup 2 9 (by walk_at "len") (.inr ⟨2, rfl, rfl⟩) (.inl ⟨rfl, rfl⟩) ?_
  refine ⟨[.tuple (SS.take k), .bool abs, .str mult, .str parent, .tuple (AB.take sup), dcsD fields, clsD facts], rfl, rfl, ?_⟩
  refine A_name (A_name (A_name (A_name (A_name (A_name (A_name (A_nil ?_)))))))
  walk_at "W"
  refine ⟨_, rfl, ?_⟩
  refine ite_to (.dat (.str (cat (if abs = true then (["abstract", " "] : List Str) else [])))) (fun e => ?_) (fun e => ?_) ?_
  · walk_at "W"
    refine to_str ?_
    rw [e, if_pos rfl]
    walk_at "cat"
  · walk_at "W"
    refine to_str ?_
    rw [e, if_neg (by simp)]
    walk_at "cat"
  walk_at "W"
  refine O_ne (by walk_at "sh") (by walk_at "sh") ⟨_, rfl, ?_⟩
  rw [eqv_str]
  refine ite_to (.dat (.str (cat (multP mult)))) (fun e => ?_) (fun e => ?_) ?_
  · walk_at "W"
    refine O_add_str (by walk_at "sz") (to_str ?_)
    rw [show multP mult = ([mult, " "] : List Str) from if_neg fun q => by rw [q] at e; simp at e]
    walk_at "cat"
  · walk_at "W"
    refine to_str ?_
    rw [show multP mult = [] from if_pos (by simpa using e)]
    walk_at "cat"
  refine O_add_str (by walk_at "sz") ?_
  walk_at "W"
  refine O_add_str (by walk_at "sz") ?_
  walk_at "W"
  refine ⟨Ty_str, ?_⟩
  walk_at "W"
  rw [take_strs ["S", "T"] k SS rfl]
  refine join_take [",", " "] (by decide +kernel) (by decide) (fun x hx => str_len_of hx (by decide +kernel)) (by decide +kernel) ?_
  show Op2 _ _ _ _ _ (.dat (.str (cat (namesP _)))) _
  refine O_add_str (by walk_at "sz") ?_
  refine S_cons ?_
  generalize hhead : (cat (if abs = true then (["abstract", " "] : List Str) else []) ++ cat (multP mult) ++ Str.ofString "sig " ++ cat (namesP ((["S", "T"] : List Str).take k))) = head
  have hhl : head.length ≤ 40 := by
    rw [← hhead]
    simp only [Str.length_append, show (Str.ofString "sig ").length = 4 from rfl]
    omega
  refine EvX.to ⟨[("head", .dat (.str (head ++ cat (supP parent sup)))), ("facts", .dat (clsD facts)), ("fields", .dat (dcsD fields))], mu⟩ ?_ ?_
  · refine S_if ?_
    walk_at "W"
    refine O_ne (by walk_at "sh") (by walk_at "sh") ⟨_, rfl, ?_⟩
    rcases hp with ⟨rfl, hsup⟩ | ⟨rfl, rfl⟩
    · walk_at "ite"
      walk_at "W"
      refine C_len_tup (by rw [List.length_take, sizeLine_eq]; omega) ?_
      walk_at "W"
      refine ⟨_, rfl, ?_⟩
      rw [show (AB.take sup).length = sup by rw [List.length_take]; show min sup 2 = sup; omega, dec_zero]
      by_cases hz : sup = 0
      · rw [decide_eq_true hz]
        walk_at "ite"
        walk_at "W"
        refine ⟨rfl, ⟨?_, fun _ _ e => e⟩⟩
        rw [show supP "" sup = [] from by unfold supP; rw [if_pos rfl, if_pos hz], cat_nil, Str.append_empty]
        walk_at "sub"
      · rw [decide_eq_false hz]
        walk_at "ite"
        walk_at "W"
        refine O_add_str (by walk_at "sz") ?_
        walk_at "W"
        refine ⟨Ty_str, ?_⟩
        walk_at "W"
        rw [take_strs ["A", "B"] sup AB rfl]
        refine join_take [" ", "+", " "] (by decide +kernel) (by decide) (fun x hx => str_len_of hx (by decide +kernel)) (by decide +kernel) ?_
        refine O_add_str (by walk_at "sz") ?_
        walk_at "W"
        refine ⟨rfl, ⟨?_, fun _ _ e => e⟩⟩
        rw [show head ++ cat (supP "" sup) = head ++ Str.ofString " in " ++ cat (sep ([" ", "+", " "] : List Str) (((["A", "B"] : List Str).take sup).map one)) from by
          rw [show supP "" sup = ([" ", "in", " "] : List Str) ++ sep ([" ", "+", " "] : List Str) (((["A", "B"] : List Str).take sup).map one) from by unfold supP; rw [if_pos rfl, if_neg hz]]
          walk_at "cat"]
        walk_at "sub"
    · walk_at "ite"
      walk_at "W"
      refine O_add_str (by walk_at "sz") ?_
      walk_at "W"
      refine O_add_str (by walk_at "sz") ?_
      walk_at "W"
      refine ⟨rfl, ⟨?_, fun _ _ e => e⟩⟩
      rw [show head ++ cat (supP "A" 0) = head ++ Str.ofString " extends " ++ Str.ofString "A" from by
        rw [show supP "A" 0 = ([" ", "extends", " ", "A"] : List Str) from by unfold supP; rw [if_neg (by decide)]]
        walk_at "cat"]
      walk_at "sub"
  clear hp
  walk_at "W"
  refine C_len_tup (dcs_len hf) ?_
  walk_at "W"
  refine ⟨_, rfl, ?_⟩
  rw [List.length_map, dec_zero]
  have hbody : (cat (if fields.length = 0 then ([" ", "{", " ", "}"] : List Str) else ([" ", "{", " "] : List Str) ++ declsP fields ++ ([" ", "}"] : List Str))).length ≤ 70 := by
    split
    · decide +kernel
    · rw [cat_app, cat_app, Str.length_append, Str.length_append, show (cat ([" ", "{", " "] : List Str)).length = 3 from rfl, show (cat ([" ", "}"] : List Str)).length = 2 from rfl]
      omega
  refine ite_to (.dat (.str (cat (if fields.length = 0 then ([" ", "{", " ", "}"] : List Str) else ([" ", "{", " "] : List Str) ++ declsP fields ++ ([" ", "}"] : List Str))))) (fun e => ?_) (fun e => ?_) ?_
  · have hz : ¬ fields.length = 0 := by simpa using e
    walk_at "W"
    refine decls_text_ok X (n := n + 2) hf hMs _ _ ?_
    refine O_add_str (by walk_at "sz") ?_
    walk_at "W"
    refine O_add_str (by walk_at "sz") (to_str ?_)
    rw [if_neg hz]
    walk_at "cat"
  · have hz : fields.length = 0 := by simpa using e
    walk_at "W"
    refine to_str ?_
    rw [if_pos hz]
    walk_at "cat"
  walk_at "W"
  refine O_add_str (by walk_at "sz") ?_
  walk_at "W"
  refine C_len_tup (clsD_len hfa) ?_
  walk_at "W"
  refine ⟨_, rfl, ?_⟩
  rw [List.length_map, dec_zero]
  have hfl2 : (cat (if facts.length = 0 then [] else ([" "] : List Str) ++ blockP facts)).length ≤ 70 := by
    split
    · exact Nat.zero_le _
    · rw [cat_app, Str.length_append, show (cat ([" "] : List Str)).length = 1 from rfl]
      omega
  refine ite_to (.dat (.str (cat (if facts.length = 0 then [] else ([" "] : List Str) ++ blockP facts)))) (fun e => ?_) (fun e => ?_) ?_
  · have hz : ¬ facts.length = 0 := by simpa using e
    walk_at "W"
    refine block_text_ok X (n := n) hfa _ _ ?_
    refine O_add_str (by walk_at "sz") (to_str ?_)
    rw [if_neg hz]
    walk_at "cat"
  · have hz : facts.length = 0 := by simpa using e
    walk_at "W"
    refine to_str ?_
    rw [if_pos hz]
    walk_at "cat"
  refine O_add_str (by walk_at "sz") ?_
  refine ret_to h ?_
  show _ = cat (_ ++ _ ++ (["sig", " "] : List Str) ++ _ ++ supP parent sup ++ _ ++ _)
  rw [← hhead]
  walk_at "cat"
end
section
set_option maxRecDepth 100000
set_option maxHeartbeats 400000
theorem nameF_len {name : Str} (h : name.length ≤ 2) : (cat (if name = "" then [] else ([" ", name] : List Str))).length ≤ 3 := by
  split
  · exact Nat.zero_le _
  · rw [cat_len]
    show 1 + (name.length + 0) ≤ 3
    omega
theorem open_ok {C : Cx} (X : Cok C) {n : Nat} {k : Nat} {as : Str} (h : (It.opn k as).Ok) : Gives C (n + 1) "item_text" [.dat (It.opn k as).d] (.dat (.str (cat (It.opn k as).ps))) := by
  obtain ⟨hk, ha⟩ := h
  have hal : as.length ≤ 1 := str_len_of (n := 1) ha (by decide +kernel)
  have hao : PyData.strOk as = true := by
    simp only [List.mem_cons, List.not_mem_nil, or_false] at ha
    rcases ha with rfl | rfl <;> decide +kernel
  have hnl : (cat (namesP ((["A", "B"] : List Str).take k))).length ≤ 4 := by
    obtain h | h | h : k = 0 ∨ k = 1 ∨ k = 2 := by omega
    all_goals subst h; decide +kernel
  have hargs : (cat (if k = 0 then [] else (["["] : List Str) ++ namesP ((["A", "B"] : List Str).take k) ++ (["]"] : List Str))).length ≤ 6 := by
    split
    · exact Nat.zero_le _
    · rw [cat_app, cat_app, Str.length_append, Str.length_append, show (cat (["["] : List Str)).length = 1 from rfl, show (cat (["]"] : List Str)).length = 1 from rfl]; omega
  have hasl : (cat (if as = "" then [] else ([" ", "as", " ", as] : List Str))).length ≤ 6 := by
    split
    · exact Nat.zero_le _
    · rw [cat_len]
      show 1 + (2 + (1 + (as.length + 0))) ≤ 6
      omega
  intro mu K h
  show FnOk C _ _ mu [.dat (.tuple [.str "open", .int 9, .str "util/ordering", .tuple (AB.take k), .str as])] K
  refine enter X ["item"] (by rfl) (by rfl) (by rfl) (by rfl) rfl (bind1 rfl (fun _ => by rfl)) (by decide) (by decide) rfl rfl rfl ?_
  intro L
  walk_at "W"; walk_at "Q"
  walk_at "W"
  refine C_len_tup (by rw [List.length_take, sizeLine_eq]; show min k 2 ≤ _; omega) ?_
  walk_at "W"
  refine ⟨_, rfl, ?_⟩
  rw [show (AB.take k).length = k by rw [List.length_take]; show min k 2 = k; omega, dec_zero]
  refine ite_to (.dat (.str (cat (if k = 0 then [] else (["["] : List Str) ++ namesP ((["A", "B"] : List Str).take k) ++ (["]"] : List Str))))) (fun e => ?_) (fun e => ?_) ?_
  · have hz : ¬ k = 0 := by simpa using e
    walk_at "W"
    refine ⟨Ty_str, ?_⟩
    walk_at "W"
    rw [take_strs ["A", "B"] k AB rfl]
    refine join_take [",", " "] (by decide +kernel) (by decide) (fun x hx => str_len_of hx (by decide +kernel)) (by decide +kernel) ?_
    show Op2 _ _ _ _ _ (.dat (.str (cat (namesP _)))) _
    refine O_add_str (by walk_at "sz") ?_
    walk_at "W"
    refine O_add_str (by walk_at "sz") (to_str ?_)
    rw [if_neg hz]
    walk_at "cat"
  · have hz : k = 0 := by simpa using e
    walk_at "W"
    refine to_str ?_
    rw [if_pos hz]
    walk_at "cat"
  walk_at "W"
  refine O_add_str (by walk_at "sz") ?_
  walk_at "W"
  refine O_add_str (by walk_at "sz") ?_
  walk_at "W"
  refine O_ne (by walk_at "sh") (by walk_at "sh") ⟨_, rfl, ?_⟩
  rw [eqv_str]
  refine ite_to (.dat (.str (cat (if as = "" then [] else ([" ", "as", " ", as] : List Str))))) (fun e => ?_) (fun e => ?_) ?_
  · walk_at "W"
    refine O_add_str (by walk_at "sz") (to_str ?_)
    rw [if_neg fun q => by rw [q] at e; simp at e]
    walk_at "cat"
  · walk_at "W"
    refine to_str ?_
    rw [if_pos (by simpa using e)]
    walk_at "cat"
  refine O_add_str (by walk_at "sz") ?_
  refine ret_to h ?_
  show _ = cat ((["open", " ", "util/ordering"] : List Str) ++ _ ++ _)
  walk_at "cat"

/-- the items whose text a function of its own makes -/
theorem item_sig {C : Cx} (X : Cok C) {n : Nat} {r : List PyData} {t : Str} (h1 : Gives C n "sig_text" [.dat (.tuple (.str "sig" :: r))] (.dat (.str t))) : Gives C (n + 1) "item_text" [.dat (.tuple (.str "sig" :: r))] (.dat (.str t)) := by
  intro mu K h
  refine enter X ["item"] (by rfl) (by rfl) (by rfl) (by rfl) rfl (bind1 rfl (fun _ => by rfl)) (by decide) (by decide) rfl rfl rfl ?_
  intro L
  walk_at "W"
  refine B_tup (j := 0) (d := .str "sig") (by decide) (by decide) (by simp [seqIndex?]) (by rfl) ?_
  walk_at "W"; walk_at "Q"
  walk_at "W"; walk_at "Q"
  walk_at "W"
  exact h1 _ _ (ret_of h)
theorem item_cmd {C : Cx} (X : Cok C) {n : Nat} {kind : Str} {a b c d e : PyData} {t : Str} (hk : kind ∈ (["run", "check"] : List Str)) (h1 : Gives C n "command_text" [.dat (.tuple [.str kind, a, b, c, d, e])] (.dat (.str t))) : Gives C (n + 1) "item_text" [.dat (.tuple [.str kind, a, b, c, d, e])] (.dat (.str t)) := by
  intro mu K h
  refine enter X ["item"] (by rfl) (by rfl) (by rfl) (by rfl) rfl (bind1 rfl (fun _ => by rfl)) (by decide) (by decide) rfl rfl rfl ?_
  intro L
  simp only [List.mem_cons, List.not_mem_nil, or_false] at hk
  rcases hk with rfl | rfl <;>
  · walk_at "W"; walk_at "Q"
    walk_at "W"; walk_at "Q"
    walk_at "W"; walk_at "T"
    walk_at "W"
    exact h1 _ _ (ret_of h)
theorem fact_ok {C : Cx} (X : Cok C) {n : Nat} {kind name : Str} {cs : List Cl} (h : (It.fa kind name cs).Ok) : Gives C (n + 14) "item_text" [.dat (It.fa kind name cs).d] (.dat (.str (cat (It.fa kind name cs).ps))) := by
  obtain ⟨hk, hn, hc⟩ := h
  have hnl : name.length ≤ 2 := str_len_of (n := 2) hn (by decide +kernel)
  have hno : PyData.strOk name = true := by
    simp only [List.mem_cons, List.not_mem_nil, or_false] at hn
    rcases hn with rfl | rfl | rfl <;> decide +kernel
  have hbl := blockP_len hc
  have hnf := nameF_len hnl
  intro mu K h
  show FnOk C _ _ mu [.dat (.tuple [.str kind, .int 9, .str name, clsD cs])] K
  refine enter X ["item"] (by rfl) (by rfl) (by rfl) (by rfl) rfl (bind1 rfl (fun _ => by rfl)) (by decide) (by decide) rfl rfl rfl ?_
  intro L
  simp only [List.mem_cons, List.not_mem_nil, or_false] at hk
  have hko : PyData.strOk kind = true := by rcases hk with rfl | rfl <;> decide +kernel
  have hkl : kind.length ≤ 6 := by rcases hk with rfl | rfl <;> decide +kernel
  have e1 : PyData.eqv (.str kind) (.str "open") = false := by rcases hk with rfl | rfl <;> rfl
  have e2 : PyData.eqv (.str kind) (.str "sig") = false := by rcases hk with rfl | rfl <;> rfl
  have e3 : ([.str "run", .str "check"] : List PyData).any (fun y => PyData.eqv y (.str kind)) = false := by rcases hk with rfl | rfl <;> rfl
  have e4 : ([.str "fact", .str "assert"] : List PyData).any (fun y => PyData.eqv y (.str kind)) = true := by rcases hk with rfl | rfl <;> rfl
  clear hk
  walk_at "W"
  refine O_eq (by walk_at "sh") (by walk_at "sh") ⟨_, rfl, ite_f e1 ?_⟩
  walk_at "W"
  refine O_eq (by walk_at "sh") (by walk_at "sh") ⟨_, rfl, ite_f e2 ?_⟩
  walk_at "W"
  refine ⟨rfl, by walk_at "len", ?_⟩
  refine O_in_tup (by walk_at "can") (by walk_at "sh") ⟨_, rfl, ite_f e3 ?_⟩
  walk_at "W"
  refine O_ne (by walk_at "sh") (by walk_at "sh") ⟨_, rfl, ?_⟩
  rw [eqv_str]
  refine ite_to (.dat (.str (kind ++ cat (if name = "" then [] else ([" ", name] : List Str))))) (fun e => ?_) (fun e => ?_) ?_
  · walk_at "W"
    refine O_add_str (by walk_at "sz") ?_
    walk_at "W"
    refine O_add_str (by walk_at "sz") (to_str ?_)
    rw [if_neg fun q => by rw [q] at e; simp at e]
    walk_at "cat"
  · walk_at "W"
    refine to_str ?_
    rw [if_pos (by simpa using e)]
    walk_at "cat"
  walk_at "W"
  refine ⟨rfl, by walk_at "len", ?_⟩
  refine O_in_tup (by walk_at "can") (by walk_at "sh") ⟨_, rfl, ite_t e4 ?_⟩
  walk_at "W"
  refine O_add_str (by walk_at "sz") ?_
  walk_at "W"
  refine block_text_ok X (n := n) hc _ _ ?_
  refine O_add_str (by walk_at "sz") ?_
  refine ret_to h ?_
  show _ = cat (([kind] : List Str) ++ _ ++ ([" "] : List Str) ++ blockP cs)
  walk_at "cat"
theorem pred_ok {C : Cx} (X : Cok C) {n : Nat} {name : Str} {ps : List Dc} {cs : List Cl} (h : (It.prd name ps cs).Ok) : Gives C (n + 14) "item_text" [.dat (It.prd name ps cs).d] (.dat (.str (cat (It.prd name ps cs).ps))) := by
  obtain ⟨hn, hp, hc⟩ := h
  have hMs : Ms ["", "one", "set"] := by unfold Ms; decide +kernel
  have hnl : name.length ≤ 2 := str_len_of (n := 2) hn (by decide +kernel)
  have hno : PyData.strOk name = true ∧ (name == Str.ofString "") = false := by
    simp only [List.mem_cons, List.not_mem_nil, or_false] at hn
    rcases hn with rfl | rfl <;> decide +kernel
  obtain ⟨hno, hne⟩ := hno
  have hbl := blockP_len hc
  have hpl := paramsP_len hp hMs
  intro mu K h
  show FnOk C _ _ mu [.dat (.tuple [.str "pred", .int 9, .str name, dcsD ps, clsD cs])] K
  refine enter X ["item"] (by rfl) (by rfl) (by rfl) (by rfl) rfl (bind1 rfl (fun _ => by rfl)) (by decide) (by decide) rfl rfl rfl ?_
  intro L
  walk_at "W"; walk_at "Q"
  walk_at "W"; walk_at "Q"
  walk_at "W"; walk_at "T"
  walk_at "W"
  refine O_ne (by walk_at "sh") (by walk_at "sh") ⟨_, rfl, ?_⟩
  rw [eqv_str, hne]
  walk_at "ite"
  walk_at "W"
  refine O_add_str (by walk_at "sz") ?_
  walk_at "W"
  refine O_add_str (by walk_at "sz") ?_
  walk_at "W"; walk_at "T"
  walk_at "W"; walk_at "Q"
  walk_at "W"
  refine params_text_ok X (n := n + 1) hp hMs _ _ ?_
  refine O_add_str (by walk_at "sz") ?_
  walk_at "W"
  refine O_add_str (by walk_at "sz") ?_
  walk_at "W"
  refine block_text_ok X (n := n) hc _ _ ?_
  refine O_add_str (by walk_at "sz") ?_
  refine ret_to h ?_
  show _ = cat ((["pred", " ", name] : List Str) ++ _ ++ ([" "] : List Str) ++ _)
  walk_at "cat"
theorem fun_ok {C : Cx} (X : Cok C) {n : Nat} {name mult : Str} {ps : List Dc} {r b : Sm} (h : (It.fn name ps mult r b).Ok) : Gives C (n + 14) "item_text" [.dat (It.fn name ps mult r b).d] (.dat (.str (cat (It.fn name ps mult r b).ps))) := by
  obtain ⟨hn, hp, hm, hr, hb⟩ := h
  have hMs : Ms ["", "lone"] := by unfold Ms; decide +kernel
  have hnl : name.length ≤ 2 := str_len_of (n := 2) hn (by decide +kernel)
  have hno : PyData.strOk name = true ∧ (name == Str.ofString "") = false := by
    simp only [List.mem_cons, List.not_mem_nil, or_false] at hn
    rcases hn with rfl | rfl <;> decide +kernel
  obtain ⟨hno, hne⟩ := hno
  have hml : mult.length ≤ 4 := str_len_of (n := 4) hm (by decide +kernel)
  have hmo : PyData.strOk mult = true := by
    simp only [List.mem_cons, List.not_mem_nil, or_false] at hm
    rcases hm with rfl | rfl | rfl <;> decide +kernel
  have hml2 := multP_len (m := mult)
  have hrl := Sm.len hr
  have hbl := Sm.len hb
  have hpl := paramsP_len hp hMs
  intro mu K h
  show FnOk C _ _ mu [.dat (.tuple [.str "fun", .int 9, .str name, dcsD ps, .str mult, r.d, b.d])] K
  refine enter X ["item"] (by rfl) (by rfl) (by rfl) (by rfl) rfl (bind1 rfl (fun _ => by rfl)) (by decide) (by decide) rfl rfl rfl ?_
  intro L
  walk_at "W"; walk_at "Q"
  walk_at "W"; walk_at "Q"
  walk_at "W"; walk_at "T"
  walk_at "W"
  refine O_ne (by walk_at "sh") (by walk_at "sh") ⟨_, rfl, ?_⟩
  rw [eqv_str, hne]
  walk_at "ite"
  walk_at "W"
  refine O_add_str (by walk_at "sz") ?_
  walk_at "W"
  refine O_add_str (by walk_at "sz") ?_
  walk_at "W"; walk_at "T"
  walk_at "W"; walk_at "Q"
  walk_at "W"
  refine O_ne (by walk_at "sh") (by walk_at "sh") ⟨_, rfl, ?_⟩
  rw [eqv_str]
  refine ite_to (.dat (.str (cat (multP mult)))) (fun e => ?_) (fun e => ?_) ?_
  · walk_at "W"
    refine O_add_str (by walk_at "sz") (to_str ?_)
    rw [show multP mult = ([mult, " "] : List Str) from if_neg fun q => by rw [q] at e; simp at e]
    walk_at "cat"
  · walk_at "W"
    refine to_str ?_
    rw [show multP mult = [] from if_pos (by simpa using e)]
    walk_at "cat"
  walk_at "W"
  refine params_text_ok X (n := n + 1) hp hMs _ _ ?_
  refine O_add_str (by walk_at "sz") ?_
  walk_at "W"
  refine O_add_str (by walk_at "sz") ?_
  walk_at "W"
  refine O_add_str (by walk_at "sz") ?_
  walk_at "W"
  refine (sum_text X (n := n + 4) hr).2 8 (by decide) _ _ ?_
  refine O_add_str (by walk_at "sz") ?_
  walk_at "W"
  refine O_add_str (by walk_at "sz") ?_
  walk_at "W"
  refine (sum_text X (n := n + 5) hb).1 _ _ ?_
  refine O_add_str (by walk_at "sz") ?_
  walk_at "W"
  refine O_add_str (by walk_at "sz") ?_
  refine ret_to h ?_
  show _ = cat ((["fun", " ", name] : List Str) ++ _ ++ ([":", " "] : List Str) ++ _ ++ _ ++ ([" ", "{", " "] : List Str) ++ _ ++ ([" ", "}"] : List Str))
  walk_at "cat"

theorem item_text_ok {C : Cx} (X : Cok C) {n : Nat} {it : It} (h : it.Ok) : Gives C (n + 15) "item_text" [.dat it.d] (.dat (.str (cat it.ps))) := by
  cases it with
  | opn k as => exact (open_ok X (n := 0) h).le (by omega)
  | sig k abs mult parent sup fields facts => exact item_sig X (sig_ok X (n := n) h)
  | fa kind name cs => exact (fact_ok X (n := n) h).le (by omega)
  | prd name ps cs => exact (pred_ok X (n := n) h).le (by omega)
  | fn name ps mult r b => exact (fun_ok X (n := n) h).le (by omega)
  | cmd kind name nodes sc ex => exact item_cmd X h.1 (command_ok X (n := n) h)
end
section
set_option maxRecDepth 100000
set_option maxHeartbeats 400000
structure Fit (k : Nat) (d : PyData) : Prop where
  can : d.canLay0 = true
  dep : d.depth ≤ k
theorem Fit.le {k m : Nat} {d : PyData} (h : Fit k d) (l : k ≤ m) : Fit m d := ⟨h.can, Nat.le_trans h.dep l⟩
theorem Fit.str {k : Nat} {x : Str} (h : PyData.strOk x = true) : Fit k (.str x) := ⟨can_str h, by simp [PyData.depth]⟩
theorem Fit.int {k : Nat} {x : Int} : Fit k (.int x) := ⟨can_int, by simp [PyData.depth]⟩
theorem Fit.none {k : Nat} : Fit k .none := ⟨can_none, by simp [PyData.depth]⟩
theorem Fit.bool {k : Nat} {x : Bool} : Fit k (.bool x) := ⟨by simp [PyData.canLay0], by simp [PyData.depth]⟩
theorem dep_all {k : Nat} : ∀ {l : List PyData}, (∀ x ∈ l, x.depth ≤ k) → PyData.depthAll l ≤ k
  | [], _ => by simp [PyData.depthAll]
  | x :: r, h => by
    have h1 := h x List.mem_cons_self
    have h2 := dep_all (l := r) fun y hy => h y (List.mem_cons_of_mem _ hy)
    simp only [PyData.depthAll]
    omega
theorem Fit.tup {k : Nat} {l : List PyData} (h : ∀ x ∈ l, Fit k x) : Fit (k + 1) (.tuple l) :=
  ⟨can_tup (canAll_of fun x hx => (h x hx).can), by have := dep_all fun x hx => (h x hx).dep; simp only [PyData.depth]; omega⟩
theorem Fit.sh {k : Nat} {d : PyData} (h : Fit k d) (hk : k ≤ 64) : SeqAt.shaped d = true := shaped_of h.can (Nat.le_trans h.dep hk)

def Elt (C : Cx) (n : Nat) (e : PyData × PyData) : Prop := (∃ x, e.1 = .str x ∧ e.2 = .str x) ∨ ((∃ ds, e.1 = .tuple ds) ∧ Gives C n "_law_bare" [.dat e.1] (.dat e.2))
theorem bare_node {C : Cx} (X : Cok C) {n : Nat} {kd : Str} {k : Int} {rest : List (PyData × PyData)} (hk : kd ∈ (["name", "un", "bin"] : List Str)) (hr : ∀ e ∈ rest, Elt C n e) (hl : rest.length ≤ 10) (hf : ∀ e ∈ rest, Fit 60 e.1) :
    Gives C (n + 1) "_law_bare" [.dat (.tuple (.str kd :: .int k :: rest.map (·.1)))] (.dat (.tuple (.str kd :: rest.map (·.2)))) := by
  have hko : PyData.strOk kd = true ∧ ([.str "name", .str "un", .str "bin"] : List PyData).any (fun y => PyData.eqv y (.str kd)) = true := by
    simp only [List.mem_cons, List.not_mem_nil, or_false] at hk
    rcases hk with rfl | rfl | rfl <;> exact ⟨by decide +kernel, by rfl⟩
  obtain ⟨hko, e1⟩ := hko
  have hF : Fit 61 (.tuple (.str kd :: .int k :: rest.map (·.1))) := Fit.tup fun x hx => by
    simp only [List.mem_cons, List.mem_map] at hx
    rcases hx with rfl | rfl | ⟨e, he, rfl⟩
    · exact Fit.str hko
    · exact Fit.int
    · exact hf e he
  intro mu K h
  refine enter X ["part"] (by rfl) (by rfl) (by rfl) (by rfl) rfl (bind1 rfl (fun _ => by rfl)) (by decide) (by decide) rfl rfl rfl ?_
  intro L
  walk_at "W"
  refine ⟨_, rfl, ite_f (by rfl) ?_⟩
  walk_at "W"
  refine ⟨_, rfl, (fun b q => by cases q), ⟨_, rfl, ite_t (by rfl) ?_⟩⟩
  walk_at "W"
  refine ⟨rfl, by walk_at "len", ?_⟩
  refine O_ne (hF.sh (by decide)) (by walk_at "sh") ⟨_, rfl, ite_t (by rfl) ?_⟩
  walk_at "W"
  refine B_tup (j := 0) (d := .str kd) (by decide) (by decide) (by simp [seqIndex?] <;> omega) (by rfl) ?_
  walk_at "W"
  refine ⟨rfl, by walk_at "len", ?_⟩
  refine O_in_tup (by walk_at "can") (by walk_at "sh") ⟨_, rfl, ite_t e1 ?_⟩
  walk_at "W"
  refine ite_t rfl ?_
  walk_at "W"
  refine B_tup (j := 0) (d := .str kd) (by decide) (by decide) (by simp [seqIndex?] <;> omega) (by rfl) ?_
  walk_at "W"
  refine ⟨rfl, by walk_at "len", ?_⟩
  walk_at "W"
  refine E_comp [] (fun _ i acc m => m = mu ∧ acc = (rest.take i).map (·.2)) ?_
  refine Src_tup ?_
  walk_at "W"
  refine ⟨_, rfl, ?_⟩
  walk_at "W"
  refine Z_tup 2 (rest.length + 2) (by simp only [List.length_cons, List.length_map, sizeLine_eq]; omega) (.inr ⟨2, rfl, by simp only [List.length_cons, List.length_map]; omega⟩) (.inl ⟨rfl, by simp⟩) ?_
  rw [show (List.take (rest.length + 2 - 2) (List.drop 2 (PyData.str kd :: PyData.int k :: rest.map (·.1)))) = rest.map (·.1) by simp [List.take_of_length_le]]
  refine ⟨_, rfl, CompOk.map rest (·.1) (·.2) (by omega) (fun c hcm acc L' => ?_) fun F hF => ?_⟩
  · refine As_name ?_
    show EvE _ _ _ _ _ _
    rcases hr c hcm with ⟨x, hx, hy⟩ | ⟨⟨ds, hx⟩, hg⟩
    · rw [hx, hy]
      walk_at "W"
      refine ⟨_, rfl, (fun b q => by cases q), ⟨_, rfl, ite_f (by rfl) ?_⟩⟩
      walk_at "W"
      exact ⟨_, rfl, rfl, rfl⟩
    · rw [hx] at hg ⊢
      walk_at "W"
      refine ⟨_, rfl, (fun b q => by cases q), ⟨_, rfl, ite_t (by rfl) ?_⟩⟩
      walk_at "W"
      exact hg _ _ ⟨_, rfl, rfl, rfl⟩
  walk_at "W"
  refine C_tuple (upd_self _ _ _) (by rw [List.length_map, sizeLine_eq]; omega) ?_
  refine O_add_tup (by simp only [List.length_map, sizeLine_eq, List.length_cons, List.length_nil]; omega) ?_
  exact ret_le ((Le.refl mu).new hF) h

theorem bare_seq {C : Cx} (X : Cok C) {n : Nat} {α : Type} (cs : List α) (d b : α → PyData) (hr : ∀ c ∈ cs, (∃ ds, d c = .tuple ds) ∧ Gives C n "_law_bare" [.dat (d c)] (.dat (b c))) (hl : cs.length ≤ 10) (hf : ∀ c ∈ cs, Fit 60 (d c)) :
    Gives C (n + 1) "_law_bare" [.dat (.tuple (cs.map d))] (.dat (.tuple (cs.map b))) := by
  have hF : Fit 61 (.tuple (cs.map d)) := Fit.tup fun x hx => by
    obtain ⟨e, he, rfl⟩ := List.mem_map.mp hx
    exact hf e he
  intro mu K h
  refine enter X ["part"] (by rfl) (by rfl) (by rfl) (by rfl) rfl (bind1 rfl (fun _ => by rfl)) (by decide) (by decide) rfl rfl rfl ?_
  intro L
  walk_at "W"
  refine ⟨_, rfl, ite_f (by rfl) ?_⟩
  walk_at "W"
  refine ⟨_, rfl, (fun b q => by cases q), ⟨_, rfl, ite_t (by rfl) ?_⟩⟩
  walk_at "W"
  refine ⟨rfl, by walk_at "len", ?_⟩
  have hrest : ∀ (env : Env) (loc : List (Str × PV)), True := fun _ _ => trivial
  refine O_ne (hF.sh (by decide)) (by walk_at "sh") ⟨_, rfl, ?_⟩
  cases cs with
  | nil =>
    refine ite_f (by rfl) ?_
    refine ite_f (by rfl) ?_
    walk_at "W"
    refine E_comp [] (fun _ i acc m => m = mu ∧ acc = (([] : List α).take i).map b) ?_
    refine Src_tup ?_
    walk_at "W"
    refine ⟨_, rfl, CompOk.map [] d b (Nat.zero_le _) (fun c hcm acc L' => absurd hcm List.not_mem_nil) fun F hF => ?_⟩
    walk_at "W"
    refine C_tuple (upd_self _ _ _) (Nat.zero_le _) ?_
    exact ret_le ((Le.refl mu).new hF) h
  | cons c cs =>
    obtain ⟨ds, hds⟩ := (hr c List.mem_cons_self).1
    have hfc := hf c List.mem_cons_self
    refine ite_t (by rfl) ?_
    walk_at "W"
    refine B_tup (j := 0) (d := d c) (by decide) (by decide) (by simp [seqIndex?] <;> omega) (by rfl) ?_
    walk_at "W"
    refine ⟨rfl, by walk_at "len", ?_⟩
    refine O_in_tup (by walk_at "can") (hfc.sh (by decide)) ⟨_, rfl, ite_f (by rw [hds]; rfl) ?_⟩
    walk_at "W"
    refine ite_f (by rfl) ?_
    walk_at "W"
    refine E_comp [] (fun _ i acc m => m = mu ∧ acc = ((c :: cs).take i).map b) ?_
    refine Src_tup ?_
    walk_at "W"
    refine ⟨_, rfl, CompOk.map (c :: cs) d b (by omega) (fun c hcm acc L' => ?_) fun F hF => ?_⟩
    · refine As_name ?_
      show EvE _ _ _ _ _ _
      walk_at "W"
      exact (hr c hcm).2 _ _ ⟨_, rfl, rfl, rfl⟩
    walk_at "W"
    refine C_tuple (upd_self _ _ _) (by rw [List.length_map, sizeLine_eq]; omega) ?_
    exact ret_le ((Le.refl mu).new hF) h
theorem bare_none {C : Cx} (X : Cok C) {n : Nat} : Gives C (n + 1) "_law_bare" [.dat .none] (.dat .none) := by
  intro mu K h
  refine enter X ["part"] (by rfl) (by rfl) (by rfl) (by rfl) rfl (bind1 rfl (fun _ => by rfl)) (by decide) (by decide) rfl rfl rfl ?_
  intro L
  walk_at "W"
  refine ⟨_, rfl, ite_t (by rfl) ?_⟩
  walk_at "W"
  exact ret_of h
end
section
set_option maxRecDepth 100000
set_option maxHeartbeats 400000
def nameB (x : Str) : PyData := .tuple [.str "name", .str x]
def bF (acc : PyData) : List Str → PyData
  | [] => acc
  | x :: r => bF (.tuple [.str "bin", .str "+", acc, nameB x]) r
def Sm.b (s : Sm) : PyData := bF (nameB s.hd) s.tl
theorem bF_snoc (x : Str) : ∀ (l : List Str) (acc : PyData), bF acc (l ++ [x]) = .tuple [.str "bin", .str "+", bF acc l, nameB x]
  | [], _ => rfl
  | _ :: r, _ => bF_snoc x r _
def Cl.b : Cl → PyData
  | .un g s => .tuple [.str "un", .str g, s.b]
  | .inn a b => .tuple [.str "bin", .str "in", a.b, b.b]
def Dc.b (c : Dc) : PyData := .tuple [.bool c.disj, .tuple (xyz.take c.k), .str c.mult, c.s.b]
def clsB (cs : List Cl) : PyData := .tuple (cs.map Cl.b)
def dcsB (cs : List Dc) : PyData := .tuple (cs.map Dc.b)
def nodesB : Option (List Cl) → PyData
  | none => .none
  | some cs => clsB cs
def It.b : It → PyData
  | .opn k as => .tuple [.str "open", .str "util/ordering", .tuple (AB.take k), .str as]
  | .sig k abs mult parent sup fields facts => .tuple [.str "sig", .tuple (SS.take k), .bool abs, .str mult, .str parent, .tuple (AB.take sup), dcsB fields, clsB facts]
  | .fa kind name cs => .tuple [.str kind, .str name, clsB cs]
  | .prd name ps cs => .tuple [.str "pred", .str name, dcsB ps, clsB cs]
  | .fn name ps mult r b => .tuple [.str "fun", .str name, dcsB ps, .str mult, r.b, b.b]
  | .cmd kind name nodes sc ex => .tuple [.str kind, .str name, nodesB nodes, sc.d, .int ex]

theorem fit_mem {l : List Str} {k : Nat} {x : Str} (h : x ∈ l) (hl : l.all PyData.strOk = true) : Fit k (.str x) := Fit.str (List.all_eq_true.mp hl x h)
theorem fit_list {k : Nat} {l : List PyData} (h : l.all (fun x => x.canLay0 && decide (x.depth ≤ k)) = true) : ∀ x ∈ l, Fit k x := fun x hx => by
  have := List.all_eq_true.mp h x hx
  rw [Bool.and_eq_true] at this
  exact ⟨this.1, of_decide_eq_true this.2⟩
theorem fit_cons {k : Nat} {x : PyData} {l : List PyData} (h : Fit k x) (h2 : ∀ y ∈ l, Fit k y) : ∀ y ∈ x :: l, Fit k y := fun y hy => by
  rcases List.mem_cons.mp hy with rfl | hy
  · exact h
  · exact h2 y hy
theorem fit_nil {k : Nat} : ∀ y ∈ ([] : List PyData), Fit k y := fun _ h => absurd h List.not_mem_nil
theorem fit_nameD {k : Int} {x : Str} (h : PyData.strOk x = true) : Fit 1 (nameD k x) := Fit.tup (fit_cons (Fit.str (by decide +kernel)) (fit_cons Fit.int (fit_cons (Fit.str h) fit_nil)))
theorem fit_nameB {x : Str} (h : PyData.strOk x = true) : Fit 1 (nameB x) := Fit.tup (fit_cons (Fit.str (by decide +kernel)) (fit_cons (Fit.str h) fit_nil))
theorem fit_smF : ∀ {l : List Str} {acc : PyData} {k : Nat}, (∀ x ∈ l, PyData.strOk x = true) → 1 ≤ k → Fit k acc → Fit (k + l.length) (smF acc l) ∧ ∀ {acc : PyData}, Fit k acc → Fit (k + l.length) (bF acc l)
  | [], _, _, _, _, h => ⟨h, fun h => h⟩
  | x :: r, acc, k, hl, hk, h => by
    have hx := hl x List.mem_cons_self
    have hr := fun y hy => hl y (List.mem_cons_of_mem x hy)
    have i := fit_smF (l := r) (acc := .tuple [.str "bin", .int 4, .str "+", acc, nameD 5 x]) (k := k + 1) hr (by omega) (Fit.tup (fit_cons (Fit.str (by decide +kernel)) (fit_cons Fit.int (fit_cons (Fit.str (by decide +kernel)) (fit_cons h (fit_cons ((fit_nameD hx).le hk) fit_nil))))))
    rw [show k + (x :: r).length = k + 1 + r.length by rw [List.length_cons]; omega]
    exact ⟨i.1, fun h2 => i.2 (Fit.tup (fit_cons (Fit.str (by decide +kernel)) (fit_cons (Fit.str (by decide +kernel)) (fit_cons h2 (fit_cons ((fit_nameB hx).le hk) fit_nil)))))⟩
theorem Sm.Ok.strs {s : Sm} (h : s.Ok) : PyData.strOk s.hd = true ∧ ∀ x ∈ s.tl, PyData.strOk x = true :=
  ⟨List.all_eq_true.mp (show (["A", "B", "f", "x"] : List Str).all PyData.strOk = true by decide +kernel) _ h.hd, fun x hx => List.all_eq_true.mp (show (["A", "g", "C"] : List Str).all PyData.strOk = true by decide +kernel) _ (h.tl x hx)⟩
theorem Sm.fit {s : Sm} (h : s.Ok) : Fit 3 s.d ∧ Fit 3 s.b := by
  have hl := h.len
  have i := fit_smF (acc := nameD 3 s.hd) (k := 1) h.strs.2 (by decide) (fit_nameD h.strs.1)
  exact ⟨i.1.le (by omega), (i.2 (fit_nameB h.strs.1)).le (by omega)⟩
theorem Cl.fit {c : Cl} (h : c.Ok) : Fit 4 c.d ∧ Fit 4 c.b := by
  cases c with
  | un g s =>
    have hg : ∀ {k}, Fit k (.str g) := fit_mem h.1 (by decide +kernel)
    exact ⟨Fit.tup (fit_cons (Fit.str (by decide +kernel)) (fit_cons Fit.int (fit_cons hg (fit_cons (Sm.fit h.2).1 fit_nil)))), Fit.tup (fit_cons (Fit.str (by decide +kernel)) (fit_cons hg (fit_cons (Sm.fit h.2).2 fit_nil)))⟩
  | inn a b =>
    exact ⟨Fit.tup (fit_cons (Fit.str (by decide +kernel)) (fit_cons Fit.int (fit_cons (Fit.str (by decide +kernel)) (fit_cons (Sm.fit h.1).1 (fit_cons (Sm.fit h.2).1 fit_nil))))), Fit.tup (fit_cons (Fit.str (by decide +kernel)) (fit_cons (Fit.str (by decide +kernel)) (fit_cons (Sm.fit h.1).2 (fit_cons (Sm.fit h.2).2 fit_nil))))⟩
theorem fit_xyz {k : Nat} : ∀ x ∈ xyz, Fit k x := fit_cons (Fit.str (by decide +kernel)) (fit_cons (Fit.str (by decide +kernel)) (fit_cons (Fit.str (by decide +kernel)) fit_nil))
theorem Dc.Ok.fit {ms : List Str} {c : Dc} (h : c.Ok ms) (hm : Ms ms) : Fit 4 c.b :=
  Fit.tup (fit_cons Fit.bool (fit_cons (Fit.le (Fit.tup (k := 0) fun x hx => fit_xyz x (List.mem_of_mem_take hx)) (by decide)) (fit_cons (Fit.str (hm.ok h.mult)) (fit_cons (Sm.fit h.s).2 fit_nil))))
theorem cls_fit {cs : List Cl} (h : Cls cs) : Fit 5 (clsB cs) := Fit.tup fun x hx => by
  obtain ⟨c, hc, rfl⟩ := List.mem_map.mp hx
  exact (Cl.fit (h.1 c hc)).2
theorem dcs_fit {ms : List Str} {cs : List Dc} (h : Dcs ms cs) (hm : Ms ms) : Fit 5 (dcsB cs) := Fit.tup fun x hx => by
  obtain ⟨c, hc, rfl⟩ := List.mem_map.mp hx
  exact (h.1 c hc).fit hm
theorem fit_AB {k : Nat} : ∀ x ∈ AB, Fit k x := fit_cons (Fit.str (by decide +kernel)) (fit_cons (Fit.str (by decide +kernel)) fit_nil)
theorem fit_SS {k : Nat} : ∀ x ∈ SS, Fit k x := fit_cons (Fit.str (by decide +kernel)) (fit_cons (Fit.str (by decide +kernel)) fit_nil)
theorem fit_take {l : List PyData} (h : ∀ x ∈ l, Fit 0 x) (n : Nat) : Fit 1 (.tuple (l.take n)) := Fit.tup fun x hx => h x (List.mem_of_mem_take hx)
theorem Sc.Ok.fit {s : Sc} (h : s.Ok) : Fit 5 s.d := by
  refine Fit.tup (fit_cons Fit.int (fit_cons (Fit.le (k := 2) (Fit.tup fun x hx => ?_) (by decide)) fit_nil))
  obtain ⟨u, hu, rfl⟩ := List.mem_map.mp hx
  exact Fit.tup (fit_cons Fit.bool (fit_cons Fit.int (fit_cons (fit_mem (h.nums u hu).sig (by decide +kernel)) fit_nil)))
theorem It.fit {it : It} (h : it.Ok) : Fit 6 it.b := by
  cases it with
  | opn k as => exact Fit.tup (fit_cons (Fit.str (by decide +kernel)) (fit_cons (Fit.str (by decide +kernel)) (fit_cons ((fit_take fit_AB k).le (by decide)) (fit_cons (fit_mem h.2 (by decide +kernel)) fit_nil))))
  | sig k abs mult parent sup fields facts =>
    obtain ⟨_, _, hm, hp, hf, hfa⟩ := h
    have hpo : PyData.strOk parent = true := by rcases hp with ⟨rfl, _⟩ | ⟨rfl, _⟩ <;> decide +kernel
    exact Fit.tup (fit_cons (Fit.str (by decide +kernel)) (fit_cons ((fit_take fit_SS k).le (by decide)) (fit_cons Fit.bool (fit_cons (fit_mem hm (by decide +kernel)) (fit_cons (Fit.str hpo) (fit_cons ((fit_take fit_AB sup).le (by decide)) (fit_cons (dcs_fit hf (by unfold Ms; decide +kernel)) (fit_cons (cls_fit hfa) fit_nil))))))))
  | fa kind name cs =>
    obtain ⟨hk, hn, hc⟩ := h
    exact Fit.tup (fit_cons (fit_mem hk (by decide +kernel)) (fit_cons (fit_mem hn (by decide +kernel)) (fit_cons (cls_fit hc) fit_nil)))
  | prd name ps cs =>
    obtain ⟨hn, hp, hc⟩ := h
    exact Fit.tup (fit_cons (Fit.str (by decide +kernel)) (fit_cons (fit_mem hn (by decide +kernel)) (fit_cons (dcs_fit hp (by unfold Ms; decide +kernel)) (fit_cons (cls_fit hc) fit_nil))))
  | fn name ps mult r b =>
    obtain ⟨hn, hp, hm, hr, hb⟩ := h
    exact Fit.tup (fit_cons (Fit.str (by decide +kernel)) (fit_cons (fit_mem hn (by decide +kernel)) (fit_cons (dcs_fit hp (by unfold Ms; decide +kernel)) (fit_cons (fit_mem hm (by decide +kernel)) (fit_cons ((Sm.fit hr).2.le (by decide)) (fit_cons ((Sm.fit hb).2.le (by decide)) fit_nil))))))
  | cmd kind name nodes sc ex =>
    obtain ⟨hk, hn, hs, _⟩ := h
    have h2 : Fit 5 (nodesB nodes) ∧ PyData.strOk name = true := by
      rcases hn with ⟨rfl, hn⟩ | ⟨cs, rfl, hc, rfl⟩
      · exact ⟨Fit.none, List.all_eq_true.mp (show (["p", "q1"] : List Str).all PyData.strOk = true by decide +kernel) _ hn⟩
      · exact ⟨cls_fit hc, by decide +kernel⟩
    exact Fit.tup (fit_cons (fit_mem hk (by decide +kernel)) (fit_cons (Fit.str h2.2) (fit_cons h2.1 (fit_cons hs.fit (fit_cons Fit.int fit_nil)))))

theorem bare_name {C : Cx} (X : Cok C) {n : Nat} {k : Int} {x : Str} (h : PyData.strOk x = true) : Gives C (n + 1) "_law_bare" [.dat (nameD k x)] (.dat (nameB x)) :=
  bare_node X (kd := "name") (rest := [(.str x, .str x)]) (by decide +kernel) (fun e he => by rw [List.mem_singleton.mp he]; exact .inl ⟨x, rfl, rfl⟩) (by simp) (fun e he => by rw [List.mem_singleton.mp he]; exact Fit.str h)
theorem smF_tup : ∀ (l : List Str) {acc : PyData}, (∃ ds, acc = .tuple ds) → ∃ ds, smF acc l = .tuple ds
  | [], _, h => h
  | _ :: r, _, _ => smF_tup r ⟨_, rfl⟩
theorem bare_smF {C : Cx} (X : Cok C) {n : Nat} : ∀ (l : List Str) (acc accb : PyData) (k : Nat), (∀ x ∈ l, PyData.strOk x = true) → (∃ ds, acc = .tuple ds) → Fit (k + 1) acc → k + l.length ≤ 50 → Gives C (n + k + 1) "_law_bare" [.dat acc] (.dat accb) → Gives C (n + k + l.length + 1) "_law_bare" [.dat (smF acc l)] (.dat (bF accb l))
  | [], _, _, _, _, _, _, _, h => h
  | x :: r, acc, accb, k, hl, ht, hf, hk, h => by
    have hx := hl x List.mem_cons_self
    have hr := fun y hy => hl y (List.mem_cons_of_mem x hy)
    rw [List.length_cons] at hk
    have e : ∀ e ∈ ([(.str "+", .str "+"), (acc, accb), (nameD 5 x, nameB x)] : List (PyData × PyData)), Elt C (n + k + 1) e := by
      intro e he
      simp only [List.mem_cons, List.not_mem_nil, or_false] at he
      rcases he with rfl | rfl | rfl
      · exact .inl ⟨_, rfl, rfl⟩
      · exact .inr ⟨ht, h⟩
      · exact .inr ⟨⟨_, rfl⟩, (bare_name X (n := n + k) hx)⟩
    have f : ∀ e ∈ ([(.str "+", .str "+"), (acc, accb), (nameD 5 x, nameB x)] : List (PyData × PyData)), Fit 60 e.1 := by
      intro e he
      simp only [List.mem_cons, List.not_mem_nil, or_false] at he
      rcases he with rfl | rfl | rfl
      · exact Fit.str (by decide +kernel)
      · exact hf.le (by omega)
      · exact (fit_nameD hx).le (by decide)
    have g := bare_node X (n := n + k + 1) (kd := "bin") (k := 4) (by decide +kernel) e (by simp) f
    have hf2 : Fit (k + 1 + 1) (.tuple [.str "bin", .int 4, .str "+", acc, nameD 5 x]) := Fit.tup (fit_cons (Fit.str (by decide +kernel)) (fit_cons Fit.int (fit_cons (Fit.str (by decide +kernel)) (fit_cons hf (fit_cons ((fit_nameD hx).le (by omega)) fit_nil)))))
    have i := bare_smF X (n := n) r (.tuple [.str "bin", .int 4, .str "+", acc, nameD 5 x]) (.tuple [.str "bin", .str "+", accb, nameB x]) (k + 1) hr ⟨_, rfl⟩ hf2 (by omega) g
    exact i.le (by rw [List.length_cons]; omega)
theorem bare_sum {C : Cx} (X : Cok C) {n : Nat} {s : Sm} (h : s.Ok) : Gives C (n + 3) "_law_bare" [.dat s.d] (.dat s.b) := by
  have hl := h.len
  have i := bare_smF X (n := n) s.tl (nameD 3 s.hd) (nameB s.hd) 0 h.strs.2 ⟨_, rfl⟩ (fit_nameD h.strs.1) (by omega) (bare_name X h.strs.1)
  exact i.le (by omega)
theorem Sm.tup (s : Sm) : ∃ ds, s.d = .tuple ds := smF_tup s.tl ⟨_, rfl⟩
theorem Cl.tup (c : Cl) : ∃ ds, c.d = .tuple ds := by cases c <;> exact ⟨_, rfl⟩
theorem bare_claim {C : Cx} (X : Cok C) {n : Nat} {c : Cl} (h : c.Ok) : Gives C (n + 4) "_law_bare" [.dat c.d] (.dat c.b) := by
  cases c with
  | un g s =>
    refine bare_node X (n := n + 3) (kd := "un") (k := 6) (rest := [(.str g, .str g), (s.d, s.b)]) (by decide +kernel) (fun e he => ?_) (by simp) (fun e he => ?_)
    · simp only [List.mem_cons, List.not_mem_nil, or_false] at he
      rcases he with rfl | rfl
      · exact .inl ⟨_, rfl, rfl⟩
      · exact .inr ⟨s.tup, bare_sum X h.2⟩
    · simp only [List.mem_cons, List.not_mem_nil, or_false] at he
      rcases he with rfl | rfl
      · exact fit_mem h.1 (by decide +kernel)
      · exact (Sm.fit h.2).1.le (by decide)
  | inn a b =>
    refine bare_node X (n := n + 3) (kd := "bin") (k := 7) (rest := [(.str "in", .str "in"), (a.d, a.b), (b.d, b.b)]) (by decide +kernel) (fun e he => ?_) (by simp) (fun e he => ?_)
    · simp only [List.mem_cons, List.not_mem_nil, or_false] at he
      rcases he with rfl | rfl | rfl
      · exact .inl ⟨_, rfl, rfl⟩
      · exact .inr ⟨a.tup, bare_sum X h.1⟩
      · exact .inr ⟨b.tup, bare_sum X h.2⟩
    · simp only [List.mem_cons, List.not_mem_nil, or_false] at he
      rcases he with rfl | rfl | rfl
      · exact Fit.str (by decide +kernel)
      · exact (Sm.fit h.1).1.le (by decide)
      · exact (Sm.fit h.2).1.le (by decide)
theorem bare_cls {C : Cx} (X : Cok C) {n : Nat} {cs : List Cl} (h : Cls cs) : Gives C (n + 5) "_law_bare" [.dat (clsD cs)] (.dat (clsB cs)) := by
  have hl : cs.length ≤ 2 := h.2
  exact bare_seq X (n := n + 4) cs Cl.d Cl.b (fun c hc => ⟨c.tup, bare_claim X (h.1 c hc)⟩) (by omega) (fun c hc => (Cl.fit (h.1 c hc)).1.le (by decide))

theorem bare_decls_ok {C : Cx} (X : Cok C) {n : Nat} {ms : List Str} {cs : List Dc} (hc : Dcs ms cs) : Gives C (n + 4) "_law_bare_decls" [.dat (dcsD cs)] (.dat (dcsB cs)) := by
  intro mu K h
  refine enter X ["some"] (by rfl) (by rfl) (by rfl) (by rfl) rfl (bind1 rfl (fun _ => by rfl)) (by decide) (by decide) rfl rfl rfl ?_
  intro L
  have hl : cs.length ≤ 2 := hc.2
  walk_at "W"
  refine E_comp [] (fun _ i acc m => m = mu ∧ acc = (cs.take i).map Dc.b) ?_
  refine Src_tup ?_
  walk_at "W"
  refine ⟨_, rfl, CompOk.map cs Dc.d Dc.b (by omega) (fun c hcm acc L' => ?_) fun F hF => ?_⟩
  · refine As_name ?_
    show EvE _ _ _ _ _ _
    unfold Dc.d
    walk_at "W"
    refine ⟨_, rfl, ?_⟩
    walk_at "W"
    refine ⟨_, rfl, ?_⟩
    refine Z_tup 1 4 (by walk_at "len") (.inr ⟨1, rfl, rfl⟩) (.inr ⟨4, rfl, rfl⟩) ?_
    walk_at "W"
    refine bare_sum X (n := n) (hc.1 c hcm).s _ _ ?_
    walk_at "W"
    refine ⟨rfl, by walk_at "len", ?_⟩
    refine O_add_tup (by walk_at "len") ?_
    exact ⟨_, rfl, rfl, rfl⟩
  walk_at "W"
  refine C_tuple (upd_self _ _ _) (by rw [List.length_map, sizeLine_eq]; omega) ?_
  exact ret_le ((Le.refl mu).new hF) h

theorem due_open {C : Cx} (X : Cok C) {n : Nat} {k : Nat} {as : Str} : Gives C (n + 1) "_law_due" [.dat (It.opn k as).d] (.dat (It.opn k as).b) := by
  intro mu K h
  show FnOk C _ _ mu [.dat (.tuple [.str "open", .int 9, .str "util/ordering", .tuple (AB.take k), .str as])] K
  refine enter X ["item"] (by rfl) (by rfl) (by rfl) (by rfl) rfl (bind1 rfl (fun _ => by rfl)) (by decide) (by decide) rfl rfl rfl ?_
  intro L
  walk_at "W"; walk_at "Q"
  walk_at "W"
  refine ⟨rfl, by walk_at "len", ?_⟩
  walk_at "W"
  refine ⟨_, rfl, ?_⟩
  walk_at "W"
  refine Z_tup 2 5 (by walk_at "len") (.inr ⟨2, rfl, rfl⟩) (.inl ⟨rfl, rfl⟩) ?_
  refine O_add_tup (by walk_at "len") ?_
  exact ret_of h
theorem due_sig {C : Cx} (X : Cok C) {n : Nat} {k : Nat} {abs : Bool} {mult parent : Str} {sup : Nat} {fields : List Dc} {facts : List Cl} {ms : List Str} (hf : Dcs ms fields) (hfa : Cls facts) :
    Gives C (n + 6) "_law_due" [.dat (It.sig k abs mult parent sup fields facts).d] (.dat (It.sig k abs mult parent sup fields facts).b) := by
  intro mu K h
  show FnOk C _ _ mu [.dat (.tuple [.str "sig", .int 9, .tuple (SS.take k), .bool abs, .str mult, .str parent, .tuple (AB.take sup), dcsD fields, clsD facts])] K
  refine enter X ["item"] (by rfl) (by rfl) (by rfl) (by rfl) rfl (bind1 rfl (fun _ => by rfl)) (by decide) (by decide) rfl rfl rfl ?_
  intro L
  walk_at "W"; walk_at "Q"
  walk_at "W"; walk_at "Q"
  walk_at "W"
  refine ⟨rfl, by walk_at "len", ?_⟩
  walk_at "W"
  refine ⟨_, rfl, ?_⟩
  walk_at "W"
  refine ⟨_, rfl, ?_⟩
  refine Z_tup 2 7 (by walk_at "len") (.inr ⟨2, rfl, rfl⟩) (.inr ⟨7, rfl, rfl⟩) ?_
  refine O_add_tup (by walk_at "len") ?_
  walk_at "W"
  refine bare_decls_ok X (n := n + 1) hf _ _ ?_
  walk_at "W"
  refine bare_cls X (n := n) hfa _ _ ?_
  walk_at "W"
  refine ⟨rfl, by walk_at "len", ?_⟩
  refine O_add_tup (by walk_at "len") ?_
  exact ret_of h
theorem due_fact {C : Cx} (X : Cok C) {n : Nat} {kind name : Str} {cs : List Cl} (hk : kind ∈ (["fact", "assert"] : List Str)) (hc : Cls cs) : Gives C (n + 6) "_law_due" [.dat (It.fa kind name cs).d] (.dat (It.fa kind name cs).b) := by
  intro mu K h
  show FnOk C _ _ mu [.dat (.tuple [.str kind, .int 9, .str name, clsD cs])] K
  refine enter X ["item"] (by rfl) (by rfl) (by rfl) (by rfl) rfl (bind1 rfl (fun _ => by rfl)) (by decide) (by decide) rfl rfl rfl ?_
  intro L
  simp only [List.mem_cons, List.not_mem_nil, or_false] at hk
  rcases hk with rfl | rfl <;>
  · walk_at "W"; walk_at "Q"
    walk_at "W"; walk_at "Q"
    walk_at "W"; walk_at "T"
    walk_at "W"
    refine bare_cls X (n := n) hc _ _ ?_
    walk_at "W"
    refine ⟨rfl, by walk_at "len", ?_⟩
    exact ret_of h
theorem due_pred {C : Cx} (X : Cok C) {n : Nat} {name : Str} {ps : List Dc} {cs : List Cl} {ms : List Str} (hp : Dcs ms ps) (hc : Cls cs) : Gives C (n + 6) "_law_due" [.dat (It.prd name ps cs).d] (.dat (It.prd name ps cs).b) := by
  intro mu K h
  show FnOk C _ _ mu [.dat (.tuple [.str "pred", .int 9, .str name, dcsD ps, clsD cs])] K
  refine enter X ["item"] (by rfl) (by rfl) (by rfl) (by rfl) rfl (bind1 rfl (fun _ => by rfl)) (by decide) (by decide) rfl rfl rfl ?_
  intro L
  walk_at "W"; walk_at "Q"
  walk_at "W"; walk_at "Q"
  walk_at "W"; walk_at "T"
  walk_at "W"; walk_at "Q"
  walk_at "W"
  refine bare_decls_ok X (n := n + 1) hp _ _ ?_
  walk_at "W"
  refine bare_cls X (n := n) hc _ _ ?_
  walk_at "W"
  refine ⟨rfl, by walk_at "len", ?_⟩
  exact ret_of h
theorem due_fun {C : Cx} (X : Cok C) {n : Nat} {name mult : Str} {ps : List Dc} {r b : Sm} {ms : List Str} (hp : Dcs ms ps) (hr : r.Ok) (hb : b.Ok) : Gives C (n + 6) "_law_due" [.dat (It.fn name ps mult r b).d] (.dat (It.fn name ps mult r b).b) := by
  intro mu K h
  show FnOk C _ _ mu [.dat (.tuple [.str "fun", .int 9, .str name, dcsD ps, .str mult, r.d, b.d])] K
  refine enter X ["item"] (by rfl) (by rfl) (by rfl) (by rfl) rfl (bind1 rfl (fun _ => by rfl)) (by decide) (by decide) rfl rfl rfl ?_
  intro L
  walk_at "W"; walk_at "Q"
  walk_at "W"; walk_at "Q"
  walk_at "W"; walk_at "T"
  walk_at "W"; walk_at "Q"
  walk_at "W"; walk_at "Q"
  walk_at "W"
  refine bare_decls_ok X (n := n + 1) hp _ _ ?_
  walk_at "W"
  refine bare_sum X (n := n + 2) hr _ _ ?_
  walk_at "W"
  refine bare_sum X (n := n + 2) hb _ _ ?_
  walk_at "W"
  refine ⟨rfl, by walk_at "len", ?_⟩
  exact ret_of h
theorem due_cmd {C : Cx} (X : Cok C) {n : Nat} {kind name : Str} {nodes : Option (List Cl)} {sc : Sc} {ex : Int} (hk : kind ∈ (["run", "check"] : List Str)) (hn : ∀ cs, nodes = some cs → Cls cs) : Gives C (n + 6) "_law_due" [.dat (It.cmd kind name nodes sc ex).d] (.dat (It.cmd kind name nodes sc ex).b) := by
  have hg : Gives C (n + 5) "_law_bare" [.dat (nodesD nodes)] (.dat (nodesB nodes)) := by
    cases nodes with
    | none => exact (bare_none X (n := n + 4))
    | some cs => exact bare_cls X (n := n) (hn cs rfl)
  intro mu K h
  show FnOk C _ _ mu [.dat (.tuple [.str kind, .int 9, .str name, nodesD nodes, sc.d, .int ex])] K
  refine enter X ["item"] (by rfl) (by rfl) (by rfl) (by rfl) rfl (bind1 rfl (fun _ => by rfl)) (by decide) (by decide) rfl rfl rfl ?_
  intro L
  simp only [List.mem_cons, List.not_mem_nil, or_false] at hk
  rcases hk with rfl | rfl <;>
  · walk_at "W"; walk_at "Q"
    walk_at "W"; walk_at "Q"
    walk_at "W"; walk_at "T"
    walk_at "W"; walk_at "Q"
    walk_at "W"; walk_at "Q"
    walk_at "W"
    refine hg _ _ ?_
    walk_at "W"
    refine ⟨rfl, by walk_at "len", ?_⟩
    exact ret_of h
theorem due_ok {C : Cx} (X : Cok C) {n : Nat} {it : It} (h : it.Ok) : Gives C (n + 6) "_law_due" [.dat it.d] (.dat it.b) := by
  cases it with
  | opn k as => exact (due_open X (n := 0)).le (by omega)
  | sig k abs mult parent sup fields facts => exact due_sig X h.2.2.2.2.1 h.2.2.2.2.2
  | fa kind name cs => exact due_fact X h.1 h.2.2
  | prd name ps cs => exact due_pred X h.2.1 h.2.2
  | fn name ps mult r b => exact due_fun X h.2.1 h.2.2.2.1 h.2.2.2.2
  | cmd kind name nodes sc ex => 
    refine due_cmd X h.1 fun cs hcs => ?_
    rcases h.2.1 with ⟨rfl, _⟩ | ⟨cs', rfl, hc, _⟩
    · cases hcs
    · cases hcs; exact hc
end
section
set_option maxRecDepth 100000
/-! no blank at an end or beside another one, no line's end -/
def cl : Bool → List Nat → Bool
  | b, [] => !b
  | b, c :: r => if c = 32 then (!b && cl true r) else cl false r
theorem cl_skip : ∀ (p l : List Nat) (b : Bool), 32 ∉ p → p ≠ [] → cl b (p ++ l) = cl false l
  | [], _, _, _, h => absurd rfl h
  | c :: r, l, b, h, _ => by
    have hc : c ≠ 32 := fun q => h (q ▸ List.mem_cons_self)
    rw [List.cons_append]
    show (if c = 32 then _ else cl false (r ++ l)) = _
    rw [if_neg hc]
    cases r with
    | nil => rfl
    | cons d r => exact cl_skip (d :: r) l false (fun q => h (List.mem_cons_of_mem _ q)) (by simp)
def spc : Str := ⟨#[32]⟩
theorem spc_eq : Str.ofString " " = spc := by decide +kernel
theorem join_clean : ∀ (parts : List Str), (∀ p ∈ parts, 32 ∉ p.cps.toList) → cl true (Str.join spc parts).cps.toList = true → ∀ p ∈ parts, p ≠ Str.empty
  | [], _, _ => fun _ h => absurd h List.not_mem_nil
  | [p], hf, hc => by
    intro q hq e
    rw [List.mem_singleton.mp hq] at e
    subst e
    exact absurd hc (by decide)
  | p :: q :: r, hf, hc => by
    have e : (Str.join spc (p :: q :: r)).cps.toList = p.cps.toList ++ 32 :: (Str.join spc (q :: r)).cps.toList := by
      show (p ++ spc ++ Str.join spc (q :: r)).cps.toList = _
      simp [Str.cps_append, spc]
    rw [e] at hc
    by_cases hp : p.cps.toList = []
    · rw [hp] at hc; exact absurd hc (by simp [cl])
    · rw [cl_skip _ _ _ (hf p List.mem_cons_self) hp] at hc
      have hc2 : cl true (Str.join spc (q :: r)).cps.toList = true := by simpa [cl] using hc
      have ih := join_clean (q :: r) (fun x hx => hf x (List.mem_cons_of_mem _ hx)) hc2
      intro x hx
      rcases List.mem_cons.mp hx with rfl | hx
      · intro q2; rw [q2] at hp; exact hp rfl
      · exact ih x hx
theorem split_clean {x : Str} (h : cl true x.cps.toList = true) : ∀ p ∈ Txt.split x spc, p ≠ Str.empty :=
  join_clean _ (StrLaws.split_free x 32) (by rw [show spc = (⟨#[32]⟩ : Str) from rfl, StrLaws.join_split]; exact h)
theorem join_txt (x : Str) : Txt.join spc (Txt.split x spc) = x := by
  show Builtin.Str.glued _ _ = _
  rw [StrLaws.glued_eq_join, StrLaws.join_split]
theorem nl_not : isL 10 = false := by decide +kernel
theorem sp_list : (" " : Str).cps.toList = [32] := by decide +kernel
theorem run_clean : ∀ (ps : List Str) (s t : Au), runA s ps = some t → t ≠ .b → cl (decide (s = .b)) (cat ps).cps.toList = true ∧ 10 ∉ (cat ps).cps.toList
  | [], s, t, h, ht => by
    cases h
    rw [decide_eq_false ht]
    exact ⟨rfl, by simp [cat, Str.empty]⟩
  | x :: r, s, t, h, ht => by
    simp only [runA] at h
    have ec : (cat (x :: r)).cps.toList = x.cps.toList ++ (cat r).cps.toList := by rw [cat_cons, Str.cps_append, Array.toList_append]
    rw [ec]
    cases e : stepA s x with
    | none => rw [e] at h; cases h
    | some s' =>
      rw [e] at h
      obtain ⟨i1, i2⟩ := run_clean r s' t h ht
      unfold stepA at e
      split at e
      · rename_i hx
        subst hx
        split at e
        · cases e
        · rename_i hs
          cases e
          rw [sp_list, decide_eq_false hs]
          refine ⟨?_, ?_⟩
          · show (!false && cl true _) = true
            exact i1
          · intro q
            rcases List.mem_cons.mp q with q | q
            · cases q
            · exact i2 q
      · rename_i hx
        split at e
        · rename_i hw
          split at e
          · cases e
          · rename_i hs
            cases e
            unfold isW at hw
            rw [Bool.and_eq_true, Bool.and_eq_true] at hw
            obtain ⟨hw, hv⟩ := hw
            have hall : ∀ c ∈ x.cps.toList, isL c = true := fun c hc => List.all_eq_true.mp hw.2 c hc
            have h32 : 32 ∉ x.cps.toList := fun q => by have := hall _ q; rw [sp_not] at this; cases this
            have h10 : 10 ∉ x.cps.toList := fun q => by have := hall _ q; rw [nl_not] at this; cases this
            have hne : x.cps.toList ≠ [] := fun q => by rw [q] at hw; simp at hw
            rw [cl_skip _ _ _ h32 hne]
            exact ⟨i1, fun q => (List.mem_append.mp q).elim h10 i2⟩
        · split at e
          · rename_i ho
            cases e
            unfold isO at ho
            split at ho
            · rename_i c q
              rw [Bool.and_eq_true, Bool.and_eq_true] at ho
              have h10 : c ≠ 10 := by
                have := ho.1.2
                simpa using this
              have h32 : c ≠ 32 := fun q2 => hx (by
                refine Str.ext' ?_
                rw [← Array.toList_inj, q, sp_list, q2])
              have h32' : 32 ∉ x.cps.toList := by rw [q]; intro z; rw [List.mem_singleton] at z; exact h32 z.symm
              rw [cl_skip _ _ _ h32' (by rw [q]; simp)]
              refine ⟨i1, fun z => (List.mem_append.mp z).elim (fun z => ?_) i2⟩
              rw [q, List.mem_singleton] at z
              exact h10 z.symm
            · cases ho
          · cases e
theorem no_nl {x : Str} (h : 10 ∉ x.cps.toList) : Txt.contains x (Str.ofString "\n") = false := by
  rw [show Str.ofString "\n" = (⟨#[10]⟩ : Str) by decide +kernel]
  unfold Txt.contains
  rw [StrLaws.found_one, decide_eq_false h]
theorem seg_ok : ∀ {ps : List Str}, Seg ps → (∀ x ∈ ps, PyData.strOk x = true) ∧ ps.length ≤ (cat ps).length
  | [], _ => ⟨fun _ h => absurd h List.not_mem_nil, Nat.zero_le _⟩
  | x :: r, h => by
    obtain ⟨h1, h2, h3⟩ := h
    obtain ⟨i1, i2⟩ := seg_ok h3
    have hx : 1 ≤ x.length := by
      rw [len_list]
      rcases h2 with ⟨c, e, _⟩ | ⟨_, ⟨c, l, e⟩, _⟩
      · rw [e]; exact Nat.le_refl _
      · rw [e]; exact Nat.succ_pos _
    refine ⟨fun y hy => ?_, ?_⟩
    · rcases List.mem_cons.mp hy with rfl | hy
      · unfold PyData.strOk
        rw [← Array.all_toList, List.all_eq_true]
        exact fun c hc => decide_eq_true (h1 c hc)
      · exact i1 y hy
    · rw [cat_cons, Str.length_append, List.length_cons]; omega
end
section
set_option maxRecDepth 100000
def Ru (s : Au) (ps : List Str) (t : Au) : Prop := runA s ps = some t
theorem Ru.nil {s : Au} : Ru s [] s := rfl
theorem Ru.app {s t u : Au} {a b : List Str} (h1 : Ru s a t) (h2 : Ru t b u) : Ru s (a ++ b) u := by
  unfold Ru at *
  rw [runA_app, h1]; exact h2
theorem Ru.cons {s t u : Au} {x : Str} {r : List Str} (h1 : stepA s x = some t) (h2 : Ru t r u) : Ru s (x :: r) u := by
  unfold Ru at *
  show (stepA s x).bind _ = _
  rw [h1]; exact h2
abbrev Wd (x : Str) : Prop := isW x = true ∧ x ≠ " "
abbrev Od (x : Str) : Prop := isO x = true ∧ isW x = false ∧ x ≠ " "
theorem step_w {x : Str} (h : Wd x) {s : Au} (hs : s ≠ .l) : stepA s x = some .l := by unfold stepA; rw [if_neg h.2, if_pos h.1, if_neg hs]
theorem step_o {x : Str} (h : Od x) {s : Au} : stepA s x = some .o := by unfold stepA; rw [if_neg h.2.2, if_neg (by rw [h.2.1]; simp), if_pos h.1]
theorem step_sp {s : Au} (hs : s ≠ .b) : stepA s " " = some .b := by unfold stepA; rw [if_pos rfl, if_neg hs]
theorem wd_of {l : List Str} {x : Str} (h : x ∈ l) (hl : l.all (fun x => isW x && !(x == (" " : Str))) = true) : Wd x := by
  have := List.all_eq_true.mp hl x h
  rw [Bool.and_eq_true] at this
  exact ⟨this.1, by simpa using this.2⟩
local macro_rules | `(tactic| walk_at "ru") => `(tactic| (repeat (first | exact Ru.nil | refine Ru.cons (step_sp (by decide)) ?_ | refine Ru.cons (step_w (by decide +kernel) (by first | assumption | decide)) ?_ | refine Ru.cons (step_o (by decide +kernel)) ?_)))
theorem ru_sm {s : Sm} (h : s.Ok) {a : Au} (ha : a ≠ .l) : Ru a s.ps .l := by
  refine Ru.cons (step_w (wd_of h.hd (by decide +kernel)) ha) ?_
  have := h.tl
  generalize s.tl = l at this
  induction l with
  | nil => exact Ru.nil
  | cons x r ih =>
    rw [List.flatMap_cons]
    refine Ru.app (t := .l) ?_ (ih fun y hy => this y (List.mem_cons_of_mem _ hy))
    walk_at "ru"
    exact Ru.cons (step_w (wd_of (this x List.mem_cons_self) (by decide +kernel)) (by decide)) Ru.nil
theorem ru_cl {c : Cl} (h : c.Ok) {a : Au} (ha : a ≠ .l) : Ru a c.ps .l := by
  cases c with
  | un g s =>
    refine Ru.cons (step_w (wd_of h.1 (by decide +kernel)) ha) ?_
    walk_at "ru"
    exact ru_sm h.2 (by decide)
  | inn x y =>
    refine Ru.app (t := .b) (Ru.app (t := .l) (ru_sm h.1 ha) ?_) (ru_sm h.2 (by decide))
    walk_at "ru"
theorem ru_sep {α : Type} {s : List Str} {f : α → List Str} {e : Au} (hb : e ≠ .l) (hs : Ru .l s e) : ∀ {l : List α}, (∀ x ∈ l, ∀ a, a ≠ .l → Ru a (f x) .l) → l ≠ [] → ∀ a, a ≠ .l → Ru a (sep s (l.map f)) .l
  | [], _, h => absurd rfl h
  | [x], h, _ => fun a ha => h x List.mem_cons_self a ha
  | x :: y :: r, h, _ => fun a ha => by
    show Ru a (f x ++ s ++ sep s ((y :: r).map f)) .l
    exact Ru.app (Ru.app (h x List.mem_cons_self a ha) hs) (ru_sep hb hs (fun z hz => h z (List.mem_cons_of_mem _ hz)) (by simp) e hb)
theorem ru_mult {ms : List Str} {m : Str} (h : m ∈ ms) (hl : ms.all (fun x => x == (Str.ofString "") || isW x && !(x == (" " : Str))) = true) : Ru .b (multP m) .b := by
  unfold multP
  split
  · exact Ru.nil
  · rename_i q
    have := List.all_eq_true.mp hl m h
    rw [Bool.or_eq_true] at this
    rcases this with this | this
    · exact absurd (eq_of_beq this) q
    · rw [Bool.and_eq_true] at this
      refine Ru.cons (step_w ⟨this.1, by simpa using this.2⟩ (by decide)) ?_
      walk_at "ru"
theorem ru_comma : Ru .l ([",", " "] : List Str) .b := by walk_at "ru"
theorem ru_names {l : List Str} (h : l.all (fun x => isW x && !(x == (" " : Str))) = true) (hl : l ≠ []) {a : Au} (ha : a ≠ .l) : Ru a (namesP l) .l :=
  ru_sep (e := .b) (by decide) ru_comma (fun x hx _ ha => Ru.cons (step_w (wd_of hx h) ha) Ru.nil) hl a ha
theorem all_take {l : List Str} {p : Str → Bool} (h : l.all p = true) (k : Nat) : (l.take k).all p = true := List.all_eq_true.mpr fun x hx => List.all_eq_true.mp h x (List.mem_of_mem_take hx)
theorem take_ne {α : Type} {l : List α} {k : Nat} (h : l ≠ []) (hk : 1 ≤ k) : l.take k ≠ [] := by
  cases l with
  | nil => exact absurd rfl h
  | cons x r =>
    cases k with
    | zero => omega
    | succ k => simp
def AMM : List Str := ["", "one", "lone", "some", "set"]
theorem ru_dc {ms : List Str} {c : Dc} (h : c.Ok ms) (hm : ∀ m ∈ ms, m ∈ AMM) {a : Au} (ha : a ≠ .l) : Ru a c.ps .l := by
  unfold Dc.ps
  refine Ru.app (t := .b) (Ru.app (t := .b) (Ru.app (t := .l) ?_ (by walk_at "ru")) (ru_mult (hm _ h.mult) (by decide +kernel))) (ru_sm h.s (by decide))
  have hn : ∀ a, a ≠ .l → Ru a (namesP ((["x", "y", "z"] : List Str).take c.k)) .l := fun a ha => ru_names (all_take (by decide +kernel) _) (take_ne (by simp) h.lo) ha
  cases c.disj with
  | true =>
    refine Ru.app (t := .b) ?_ (hn _ (by decide))
    show Ru a (["disj", " "] : List Str) .b
    walk_at "ru"
  | false => exact Ru.app (t := a) Ru.nil (hn a ha)
theorem ru_nodes {cs : List Cl} (h : Cls cs) (hn : cs ≠ []) {a : Au} (ha : a ≠ .l) : Ru a (nodesP cs) .l :=
  ru_sep (e := .b) (by decide) (by walk_at "ru") (fun x hx _ ha => ru_cl (h.1 x hx) ha) hn a ha
theorem ru_decls {ms : List Str} {cs : List Dc} (h : Dcs ms cs) (hm : ∀ m ∈ ms, m ∈ AMM) (hn : cs ≠ []) {a : Au} (ha : a ≠ .l) : Ru a (declsP cs) .l :=
  ru_sep (e := .b) (by decide) ru_comma (fun x hx _ ha => ru_dc (h.1 x hx) hm ha) hn a ha
theorem ne_of_len {α : Type} {l : List α} (h : ¬ l.length = 0) : l ≠ [] := fun q => h (by rw [q]; rfl)
theorem ru_block {cs : List Cl} (h : Cls cs) {a : Au} : Ru a (blockP cs) .o := by
  unfold blockP
  split
  · walk_at "ru"
  · rename_i q
    refine Ru.app (t := .l) (Ru.app (t := .b) (by walk_at "ru") (ru_nodes h (ne_of_len q) (by decide))) ?_
    walk_at "ru"
theorem ru_params {ms : List Str} {cs : List Dc} (h : Dcs ms cs) (hm : ∀ m ∈ ms, m ∈ AMM) : ∃ t, t ≠ .b ∧ Ru .l (paramsP cs) t := by
  unfold paramsP
  split
  · exact ⟨.l, by decide, Ru.nil⟩
  · rename_i q
    refine ⟨.o, by decide, Ru.app (t := .l) (Ru.app (t := .o) (by walk_at "ru") (ru_decls h hm (ne_of_len q) (by decide))) ?_⟩
    walk_at "ru"
theorem wd_dec {i : Int} (h0 : 0 ≤ i) (h1 : i < 12) : Wd (decS i) := by
  have key : ∀ k : Fin 12, Wd (decS (k.val : Int)) := by decide +kernel
  have := key ⟨i.toNat, by omega⟩
  rwa [show ((i.toNat : Nat) : Int) = i by omega] at this
theorem ru_nu {u : Nu} (h : u.Ok) {a : Au} (ha : a ≠ .l) : Ru a u.ps .l := by
  unfold Nu.ps
  have hn : ∀ a, a ≠ .l → Ru a ([decS u.num, " ", u.sig] : List Str) .l := fun a ha =>
    Ru.cons (step_w (wd_dec h.lo h.hi) ha) (Ru.cons (step_sp (by decide)) (Ru.cons (step_w (wd_of h.sig (by decide +kernel)) (by decide)) Ru.nil))
  cases u.ex with
  | true =>
    refine Ru.app (t := .b) ?_ (hn _ (by decide))
    show Ru a (["exactly", " "] : List Str) .b
    walk_at "ru"
  | false => exact Ru.app (t := a) Ru.nil (hn a ha)
theorem ru_nums {us : List Nu} (h : ∀ u ∈ us, u.Ok) (hn : us ≠ []) {a : Au} (ha : a ≠ .l) : Ru a (numsP us) .l :=
  ru_sep (e := .b) (by decide) ru_comma (fun x hx _ ha => ru_nu (h x hx) ha) hn a ha
theorem ru_sc {s : Sc} (h : s.Ok) {a : Au} (ha : a ≠ .b) : ∃ t, t ≠ .b ∧ Ru a s.ps t := by
  have hd : ∀ {a : Au}, a ≠ .b → Ru a ([" ", "for", " "] : List Str) .b := fun ha => Ru.cons (step_sp ha) (by walk_at "ru")
  unfold Sc.ps
  split
  · split
    · exact ⟨a, ha, Ru.nil⟩
    · rename_i q
      exact ⟨.l, by decide, Ru.app (hd ha) (ru_nums h.nums (ne_of_len q) (by decide))⟩
  · rename_i q0
    have hw : Wd (decS s.dflt) := wd_dec (by omega) (by have := h.hi; omega)
    have h1 : Ru a ([" ", "for", " ", decS s.dflt] : List Str) .l := Ru.app (a := ([" ", "for", " "] : List Str)) (hd ha) (Ru.cons (step_w hw (by decide)) Ru.nil)
    refine ⟨.l, by decide, Ru.app h1 ?_⟩
    split
    · exact Ru.nil
    · rename_i q
      exact Ru.app (t := .b) (by walk_at "ru") (ru_nums h.nums (ne_of_len q) (by decide))
theorem Ru.app' {s t : Au} {a b : List Str} (h1 : Ru s a t) (h2 : ∃ u, u ≠ .b ∧ Ru t b u) : ∃ u, u ≠ .b ∧ Ru s (a ++ b) u := let ⟨u, x, y⟩ := h2; ⟨u, x, h1.app y⟩
theorem ru_it {it : It} (h : it.Ok) : ∃ t, t ≠ .b ∧ Ru .b it.ps t := by
  cases it with
  | opn k as =>
    obtain ⟨hk, has⟩ := h
    have key : ∀ (k : Fin 3), ∀ as ∈ (["", "o"] : List Str), ∃ t, t ≠ .b ∧ Ru .b (It.ps (.opn k.val as)) t := by
      intro k as has
      have h2 : (runA .b (It.ps (.opn k.val as))) = some .l ∨ (runA .b (It.ps (.opn k.val as))) = some .o := by
        revert k as
        decide +kernel
      rcases h2 with h2 | h2
      · exact ⟨.l, by decide, h2⟩
      · exact ⟨.o, by decide, h2⟩
    exact key ⟨k, by omega⟩ as has
  | sig k abs mult parent sup fields facts =>
    obtain ⟨k1, k2, hm, hp, hf, hfa⟩ := h
    have hff : ∀ m ∈ (["", "one", "lone", "some", "set"] : List Str), m ∈ AMM := fun _ h => h
    have h1 : Ru .b ((if abs = true then (["abstract", " "] : List Str) else [])) .b := by
      cases abs
      · exact Ru.nil
      · show Ru .b (["abstract", " "] : List Str) .b
        walk_at "ru"
    have h2 : Ru .b (multP mult) .b := ru_mult hm (by decide +kernel)
    have h3 : Ru .b (["sig", " "] : List Str) .b := by walk_at "ru"
    have h4 : Ru .b (namesP ((["S", "T"] : List Str).take k)) .l := ru_names (all_take (by decide +kernel) _) (take_ne (by simp) k1) (by decide)
    have h5 : Ru .l (if parent = "" then (if sup = 0 then [] else ([" ", "in", " "] : List Str) ++ sep ([" ", "+", " "] : List Str) (((["A", "B"] : List Str).take sup).map one)) else ([" ", "extends", " ", parent] : List Str)) .l := by
      rcases hp with ⟨rfl, hs⟩ | ⟨rfl, rfl⟩
      · rw [if_pos rfl]
        split
        · exact Ru.nil
        · rename_i q
          refine Ru.app (t := .b) (by walk_at "ru") ?_
          exact ru_sep (e := .b) (f := one) (by decide) (by walk_at "ru") (fun x hx _ ha => Ru.cons (step_w (wd_of hx (all_take (by decide +kernel) _)) ha) Ru.nil) (take_ne (by simp) (by omega)) .b (by decide)
      · rw [if_neg (by decide)]
        walk_at "ru"
    have h6 : Ru .l (if fields.length = 0 then ([" ", "{", " ", "}"] : List Str) else ([" ", "{", " "] : List Str) ++ declsP fields ++ ([" ", "}"] : List Str)) .o := by
      split
      · walk_at "ru"
      · rename_i q
        refine Ru.app (t := .l) (Ru.app (t := .b) (by walk_at "ru") (ru_decls hf hff (ne_of_len q) (by decide))) ?_
        walk_at "ru"
    refine Ru.app' (((((h1.app h2).app h3).app h4).app h5).app h6) ?_
    split
    · exact ⟨.o, by decide, Ru.nil⟩
    · exact ⟨.o, by decide, Ru.app (t := .b) (by walk_at "ru") (ru_block hfa)⟩
  | fa kind name cs =>
    obtain ⟨hk, hn, hc⟩ := h
    refine Ru.app' (t := .b) (Ru.app (t := .l) (Ru.app (t := .l) ?_ ?_) (by walk_at "ru")) ⟨.o, by decide, ru_block hc⟩
    · exact Ru.cons (step_w (wd_of hk (by decide +kernel)) (by decide)) Ru.nil
    · split
      · exact Ru.nil
      · rename_i q
        have hn' : name ∈ (["p", "q1"] : List Str) := by
          simp only [List.mem_cons, List.not_mem_nil, or_false] at hn ⊢
          rcases hn with h | h | h
          · exact .inl h
          · exact .inr h
          · exact absurd h q
        exact Ru.cons (step_sp (by decide)) (Ru.cons (step_w (wd_of hn' (by decide +kernel)) (by decide)) Ru.nil)
  | prd name ps cs =>
    obtain ⟨hn, hp, hc⟩ := h
    obtain ⟨t, ht, h2⟩ := ru_params (cs := ps) hp (by decide +kernel)
    refine Ru.app' (t := .b) (Ru.app (t := t) (Ru.app (t := .l) ?_ h2) (Ru.cons (step_sp ht) Ru.nil)) ⟨.o, by decide, ru_block hc⟩
    walk_at "ru"
    exact Ru.cons (step_w (wd_of hn (by decide +kernel)) (by decide)) Ru.nil
  | fn name ps mult r b =>
    obtain ⟨hn, hp, hm, hr, hb⟩ := h
    obtain ⟨t, ht, h2⟩ := ru_params (cs := ps) hp (by decide +kernel)
    refine Ru.app' (t := .l) (Ru.app (t := .b) (Ru.app (t := .l) (Ru.app (t := .b) (Ru.app (t := .b) (Ru.app (t := t) (Ru.app (t := .l) ?_ h2) ?_) (ru_mult hm (by decide +kernel))) (ru_sm hr (by decide))) ?_) (ru_sm hb (by decide))) ⟨.o, by decide, ?_⟩
    · walk_at "ru"
      exact Ru.cons (step_w (wd_of hn (by decide +kernel)) (by decide)) Ru.nil
    · exact Ru.cons (step_o (by decide +kernel)) (by walk_at "ru")
    · walk_at "ru"
    · walk_at "ru"
  | cmd kind name nodes sc ex =>
    obtain ⟨hk, hn, hs, e1, e2⟩ := h
    have h1 : Ru .b ([kind, " "] : List Str) .b := Ru.cons (step_w (wd_of hk (by decide +kernel)) (by decide)) (by walk_at "ru")
    obtain ⟨t, ht, h2⟩ : ∃ t, t ≠ .b ∧ Ru .b (whatP name nodes) t := by
      rcases hn with ⟨rfl, hn⟩ | ⟨cs, rfl, hc, rfl⟩
      · exact ⟨.l, by decide, Ru.cons (step_w (wd_of hn (by decide +kernel)) (by decide)) Ru.nil⟩
      · exact ⟨.o, by decide, ru_block hc⟩
    obtain ⟨t2, ht2, h3⟩ := ru_sc hs ht
    refine Ru.app' ((h1.app h2).app h3) ?_
    split
    · exact ⟨t2, ht2, Ru.nil⟩
    · rename_i q
      refine ⟨.l, by decide, Ru.cons (step_sp ht2) ?_⟩
      walk_at "ru"
      exact Ru.cons (step_w (wd_dec (by omega) (by omega)) (by decide)) Ru.nil
end
section
set_option maxRecDepth 100000
set_option maxHeartbeats 400000
theorem chr_ok {c : Nat} (h : c < 0x110000) : PyData.strOk (chr c) = true := by
  unfold PyData.strOk chr
  simp [h]
theorem seg_pre : ∀ (pre post : List Str), Seg (pre ++ post) → Seg post
  | [], _, h => h
  | _ :: r, post, h => seg_pre r post h.2.2
theorem chr_sp {x : Str} {c : Nat} {l : List Nat} (hx : x.cps.toList = c :: l) (h : x = " " ∨ (l = [] ∨ isL c = true)) : (chr c == (" " : Str)) = (x == " ") := by
  have e32 : ((" " : Str).cps.toList) = [32] := by decide +kernel
  rw [Bool.eq_iff_iff, beq_iff_eq, beq_iff_eq]
  constructor
  · intro q
    have hc : c = 32 := by
      have : (chr c).cps.toList = [32] := by rw [q, e32]
      simpa [chr] using this
    rcases h with h | h | h
    · exact h
    · refine Str.ext' ?_
      rw [← Array.toList_inj, hx, e32, h, hc]
    · rw [hc, sp_not] at h; cases h
  · intro q
    rw [q, e32] at hx
    cases hx
    decide +kernel
theorem words_ok {C : Cx} (X : Cok C) {n : Nat} {mu : Mu} {K : PV → Mu → Prop} {ps : List Str} (hs : Seg ps) (hl : (cat ps).length ≤ 1000)
    (h : ∀ D F mu', Le mu mu' → mu D = none → mu F = none → D ≠ F → mu' D = some (.dict [("words", .ref F), ("at", .dat (.int 0))]) → mu' F = some (.list ((W ps).map .str ++ [.none])) → K (.ref D) mu') : FnOk C (n + 1) "_law_words" mu [.dat (.str (cat ps))] K := by
  refine enter X ["text"] (by rfl) (by rfl) (by rfl) (by rfl) rfl (bind1 rfl (fun _ => by rfl)) (by decide) (by decide) rfl rfl rfl ?_
  intro L
  have hlS : (cat ps).length ≤ sizeLine := by rw [sizeLine_eq]; omega
  walk_at "W"
  refine S_swap ["found", "at"] (by rfl) ?_
  walk_at "W"
  refine ⟨rfl, by walk_at "len", fun F hF => ?_⟩
  walk_at "W"
  refine ⟨rfl, by walk_at "len", ?_⟩
  refine A_bind (A_bind (A_nil ?_))
  walk_at "W"
  refine S_while (fun k S' => ∃ pre post, ps = pre ++ post ∧ post.length = k ∧ S'.loc = ([("found", .ref F), ("at", .dat (.int ((cat pre).length : Nat))), ("text", .dat (.str (cat ps)))] : List (Str × PV)) ∧ S'.mu F = some (.list ((W pre).map .str)) ∧ Le mu S'.mu ∧ pre.length ≤ (cat pre).length) ps.length
    ⟨[], ps, rfl, rfl, rfl, upd_self _ _ _, (Le.refl mu).new hF, Nat.le_refl _⟩ ?_
  rintro k ⟨loc, m⟩ ⟨pre, post, hps, hk, rfl, hFm, hle, hpl⟩
  have hFm : m F = some (.list ((W pre).map .str)) := hFm
  have hle : Le mu m := hle
  have hcp : (cat pre).length ≤ (cat ps).length := by rw [hps, cat_app, Str.length_append]; omega
  have hWl : ((W pre).map PyData.str).length ≤ 1000 := by
    rw [List.length_map]
    have : (W pre).length ≤ pre.length := List.length_filter_le _ _
    omega
  walk_at "W"
  refine C_len_str hlS ?_
  walk_at "W"
  refine ⟨_, rfl, ?_⟩
  cases post with
  | nil =>
    rw [List.append_nil] at hps
    rw [hps, decide_eq_false (by omega)]
    refine ite_f rfl ?_
    walk_at "W"
    refine E_dictX (by rfl) (by rfl) (by simp) (by decide) ?_
    refine D_cons ?_
    walk_at "W"
    refine ⟨rfl, by walk_at "len", fun B hB => ?_⟩
    have hBF : F ≠ B := fun q => by rw [q, hB] at hFm; cases hFm
    refine O_add_list (xs := (W pre).map .str) (ys := [.none]) (by rw [upd_ne _ hBF]; exact hFm) (upd_self _ _ _) (by rw [sizeLine_eq]; show _ + 1 ≤ _; omega) fun G hG => ?_
    refine D_cons ?_
    walk_at "W"
    refine D_nil fun D hD hsy => ?_
    have hGB : Le m (upd (upd m B (.list [.none])) G (.list ((W pre).map .str ++ [.none]))) := ((Le.refl m).new hB).new hG
    have h1 := hle.none (((Le.refl m).new hB).none hG)
    have h2 := (hle.trans hGB).none hD
    have hDG : D ≠ G := fun q => by rw [q, upd_self] at hD; cases hD
    refine ⟨_, fun _ _ e => e, h D G _ ((hle.trans hGB).new hD) h2 h1 hDG ?_ ?_⟩
    · exact upd_self _ _ _
    · show upd _ D _ G = _
      rw [upd_ne _ (Ne.symm hDG), upd_self, hps]
  | cons x r =>
    have hsx := seg_pre pre (x :: r) (hps ▸ hs)
    obtain ⟨hv, hx, hr⟩ := hsx
    have hlen : (cat ps).length = (cat pre).length + (x.length + (cat r).length) := by rw [hps, cat_app, cat_cons, Str.length_append, Str.length_append]
    obtain ⟨c, l, hcl⟩ : ∃ c l, x.cps.toList = c :: l := by
      rcases hx with ⟨c, e, _⟩ | ⟨_, ⟨c, l, e⟩, _⟩
      · exact ⟨c, [], e⟩
      · exact ⟨c, l, e⟩
    have hxl : x.length = l.length + 1 := by rw [len_list, hcl]; rfl
    have hat : Txt.item (cat ps) ((cat pre).length : Nat) = chr c := item_at (by
      have := mid_get pre x r 0 (by omega)
      rw [hps]
      rw [Nat.add_zero] at this
      rw [this, hcl]; rfl)
    have hco : PyData.strOk (chr c) = true := chr_ok (hv c (by rw [hcl]; exact List.mem_cons_self))
    have hsp : (chr c == (" " : Str)) = (x == " ") := chr_sp hcl (by
      rcases hx with ⟨c', e, _⟩ | ⟨_, _, e, _⟩
      · rw [hcl] at e; cases e; exact .inr (.inl rfl)
      · exact .inr (.inr (e c (by rw [hcl]; exact List.mem_cons_self))))
    rw [decide_eq_true (by omega)]
    refine ite_t rfl ?_
    walk_at "W"
    refine EvX.to ⟨[("end", .dat (.int (((cat pre).length + x.length : Nat)))), ("found", .ref F), ("at", .dat (.int ((cat pre).length : Nat))), ("text", .dat (.str (cat ps)))], m⟩ ?_ ?_
    · refine S_while (fun k S' => ∃ j, j < x.length ∧ k = x.length - 1 - j ∧ S'.loc = ([("end", .dat (.int (((cat pre).length : Nat) + 1 + j))), ("found", .ref F), ("at", .dat (.int ((cat pre).length : Nat))), ("text", .dat (.str (cat ps)))] : List (Str × PV)) ∧ S'.mu = m) (x.length - 1)
        ⟨0, by omega, by omega, by simp, rfl⟩ ?_
      rintro k ⟨loc, m'⟩ ⟨j, hj, hkj, rfl, hm'⟩
      have hm' : m' = m := hm'
      subst hm'
      have hdone : j + 1 = x.length → ∀ (loc' : List (Str × PV)), loc' = ([("end", .dat (.int (((cat pre).length : Nat) + 1 + j))), ("found", .ref F), ("at", .dat (.int ((cat pre).length : Nat))), ("text", .dat (.str (cat ps)))] : List (Str × PV)) → Fl.next = Fl.next ∧ Sub ⟨[("end", .dat (.int (((cat pre).length + x.length : Nat)))), ("found", .ref F), ("at", .dat (.int ((cat pre).length : Nat))), ("text", .dat (.str (cat ps)))], m'⟩ ⟨loc', m'⟩ := fun hj2 loc' e => by
        refine ⟨rfl, ⟨?_, fun _ _ e => e⟩⟩
        rw [e, show (((cat pre).length + x.length : Nat) : Int) = ((cat pre).length : Nat) + 1 + j by omega]
        exact fun _ _ e => e
      walk_at "W"
      refine B_str (by omega) (by omega) hlS ?_
      rw [hat]
      walk_at "W"
      refine O_in_str ⟨_, rfl, ?_⟩
      show if isL c = true then _ else _
      rcases hx with ⟨c', e, hc⟩ | ⟨_, _, hall, hhn⟩
      · rw [hcl] at e
        cases e
        refine ite_f hc ?_
        refine ite_f rfl ?_
        exact hdone (by rw [hxl]; simp at hxl ⊢; omega) _ rfl
      · refine ite_t (hall c (by rw [hcl]; exact List.mem_cons_self)) ?_
        walk_at "W"
        refine C_len_str hlS ?_
        walk_at "W"
        refine ⟨_, rfl, ?_⟩
        by_cases hj2 : j + 1 < x.length
        · obtain ⟨d, hd⟩ : ∃ d, x.cps.toList[j + 1]? = some d := ⟨_, List.getElem?_eq_getElem (by rw [← len_list]; exact hj2)⟩
          rw [decide_eq_true (by omega)]
          refine ite_t rfl ?_
          walk_at "W"
          refine B_str (by omega) (by omega) hlS ?_
          rw [show (((cat pre).length : Nat) + 1 + (j : Int)) = (((cat pre).length + (j + 1) : Nat) : Int) by omega, item_at (by rw [hps, mid_get pre x r (j + 1) hj2]; exact hd)]
          walk_at "W"
          refine O_in_str ⟨_, rfl, ?_⟩
          refine ite_t (hall d (List.mem_of_getElem? hd)) ?_
          walk_at "W"
          refine ite_t rfl ?_
          walk_at "W"
          refine ⟨x.length - 1 - (j + 1), ⟨[("end", .dat (.int (((cat pre).length : Nat) + 1 + ((j + 1 : Nat) : Int)))), ("found", .ref F), ("at", .dat (.int ((cat pre).length : Nat))), ("text", .dat (.str (cat ps)))], m'⟩, by omega, ⟨?_, fun _ _ e => e⟩, j + 1, hj2, rfl, rfl, rfl⟩
          rw [show (((cat pre).length : Nat) + 1 + ((j + 1 : Nat) : Int)) = (((cat pre).length + (j + 1) : Nat) : Int) + 1 by omega]
          walk_at "sub"
        · have hj3 : j + 1 = x.length := by omega
          cases r with
          | nil =>
            rw [decide_eq_false (by rw [hlen]; show ¬ _ < ((_ + (_ + 0) : Nat) : Int); omega)]
            refine ite_f rfl ?_
            refine ite_f rfl ?_
            exact hdone hj3 _ rfl
          | cons y r =>
            obtain ⟨d, l2, hy, hd⟩ := hhn
            have hyl : 0 < y.length := by rw [len_list, hy]; exact Nat.succ_pos _
            have hlen2 : (cat (y :: r)).length = y.length + (cat r).length := by rw [cat_cons, Str.length_append]
            rw [decide_eq_true (by omega)]
            refine ite_t rfl ?_
            walk_at "W"
            refine B_str (by omega) (by omega) hlS ?_
            have hps2 : ps = (pre ++ [x]) ++ y :: r := by rw [hps]; simp
            have hlp : (cat (pre ++ [x])).length = (cat pre).length + x.length := by rw [cat_app, Str.length_append]; show _ + (x ++ cat []).length = _; rw [cat_nil, Str.append_empty]
            rw [show (((cat pre).length : Nat) + 1 + (j : Int)) = (((cat (pre ++ [x])).length : Nat) : Int) by omega, item_at (c := d) (by
              have := mid_get (pre ++ [x]) y r 0 hyl
              rw [hps2]
              rw [Nat.add_zero] at this
              rw [this, hy]; rfl)]
            walk_at "W"
            refine O_in_str ⟨_, rfl, ?_⟩
            refine ite_f hd ?_
            refine ite_f rfl ?_
            exact hdone hj3 _ (congrArg (fun z => ([("end", .dat (.int z)), ("found", .ref F), ("at", .dat (.int ((cat pre).length : Nat))), ("text", .dat (.str (cat ps)))] : List (Str × PV))) (show (((cat (pre ++ [x])).length : Nat) : Int) = ((cat pre).length : Nat) + 1 + (j : Int) by omega))
    walk_at "W"
    refine B_str (by omega) (by omega) hlS ?_
    rw [hat]
    walk_at "W"
    refine O_ne (by walk_at "sh") (by walk_at "sh") ⟨_, rfl, ?_⟩
    rw [eqv_str, hsp]
    have hps2 : ps = (pre ++ [x]) ++ r := by rw [hps]; simp
    have hlp : (cat (pre ++ [x])).length = (cat pre).length + x.length := by rw [cat_app, Str.length_append]; show _ + (x ++ cat []).length = _; rw [cat_nil, Str.append_empty]
    have hpl2 : (pre ++ [x]).length ≤ (cat (pre ++ [x])).length := by rw [List.length_append]; show _ + 1 ≤ _; omega
    have hk2 : r.length < k := by rw [← hk]; exact Nat.lt_succ_self _
    by_cases hb : x = " "
    · rw [show (x == (" " : Str)) = true by rw [hb]; exact beq_self_eq_true _]
      refine ite_f rfl ?_
      walk_at "W"
      refine ⟨r.length, ⟨[("found", .ref F), ("at", .dat (.int ((cat (pre ++ [x])).length : Nat))), ("text", .dat (.str (cat ps)))], m⟩, hk2, ⟨?_, fun _ _ e => e⟩, pre ++ [x], r, hps2, rfl, rfl, ?_, hle, hpl2⟩
      · rw [hlp]; walk_at "sub"
      · show m F = _
        rw [W_app, show W [x] = [] by rw [hb]; decide +kernel, List.append_nil]; exact hFm
    · rw [show (x == (" " : Str)) = false from beq_false_of_ne hb]
      refine ite_t rfl ?_
      walk_at "W"
      refine ⟨Ty_list hFm, ?_⟩
      walk_at "W"
      refine ⟨_, rfl, ?_⟩
      walk_at "W"
      refine ⟨_, rfl, ?_⟩
      refine Z_str hlS ?_
      rw [show Txt.slice (cat ps) (some ((cat pre).length : Int)) (some (((cat pre).length + x.length : Nat) : Int)) = x by rw [hps]; exact mid_slice pre x r]
      walk_at "W"
      refine C_append hFm (by rw [sizeLine_eq]; omega) ⟨rfl, ?_⟩
      walk_at "W"
      refine ⟨r.length, ⟨[("found", .ref F), ("at", .dat (.int ((cat (pre ++ [x])).length : Nat))), ("text", .dat (.str (cat ps)))], upd m F (.list ((W pre).map .str ++ [.str x]))⟩, hk2, ⟨?_, fun _ _ e => e⟩, pre ++ [x], r, hps2, rfl, rfl, ?_, hle.set hF, hpl2⟩
      · rw [hlp]; walk_at "sub"
      · show upd m F _ F = _
        rw [upd_self, W_app, show W [x] = [x] by simp [W, List.filter_cons, keep, hb], List.map_append]; rfl
end
section
set_option maxRecDepth 100000
set_option maxHeartbeats 400000
def rowL (l : List Str) : List PyData := l.map PyData.str ++ [PyData.none]
/-- the row of words: what is still to be read -/
structure Row (mu : Mu) (R D : Addr) (l : List Str) : Prop where
  ex : ∃ pre : List PyData, mu R = some (.dict [("words", .ref D), ("at", .dat (.int (pre.length : Nat)))]) ∧ mu D = some (.list (pre ++ rowL l)) ∧ (pre ++ rowL l).length ≤ 2000
  ne : R ≠ D
  ok : ∀ x ∈ l, PyData.strOk x = true
theorem Row.liveR {mu : Mu} {R D : Addr} {l : List Str} (h : Row mu R D l) : ∃ o, mu R = some o := let ⟨_, h1, _⟩ := h.ex; ⟨_, h1⟩
theorem Row.neR {mu : Mu} {R D B : Addr} {l : List Str} (h : Row mu R D l) (hB : mu B = none) : B ≠ R := fun q => by obtain ⟨o, h1⟩ := h.liveR; rw [q, h1] at hB; cases hB
theorem Row.neD {mu : Mu} {R D B : Addr} {l : List Str} (h : Row mu R D l) (hB : mu B = none) : B ≠ D := fun q => by obtain ⟨_, _, h1, _⟩ := h.ex; rw [q, h1] at hB; cases hB
theorem Row.set {mu : Mu} {R D F : Addr} {l : List Str} {o : MO} (h : Row mu R D l) (h1 : F ≠ R) (h2 : F ≠ D) : Row (upd mu F o) R D l := by
  obtain ⟨pre, q1, q2, q3⟩ := h.ex
  exact ⟨⟨pre, by rw [upd_ne _ (Ne.symm h1)]; exact q1, by rw [upd_ne _ (Ne.symm h2)]; exact q2, q3⟩, h.ne, h.ok⟩
theorem Row.new {mu : Mu} {R D B : Addr} {l : List Str} {o : MO} (h : Row mu R D l) (hB : mu B = none) : Row (upd mu B o) R D l := h.set (h.neR hB) (h.neD hB)
theorem Row.ovr {mu m : Mu} {R D : Addr} {l l' : List Str} (h : Row mu R D l) (e : Ext R mu m) (k : Row m R D l') : Row (Mine.ovr mu R m) R D l' := by
  obtain ⟨pre, q1, q2, q3⟩ := k.ex
  obtain ⟨pre0, p1, p2, p3⟩ := h.ex
  refine ⟨⟨pre, by simp [Mine.ovr, q1], ?_, q3⟩, h.ne, k.ok⟩
  rw [only_ovr R mu m D (Ne.symm h.ne), p2, ← q2, e D _ (Ne.symm h.ne) p2]

theorem any_str {w : Str} {es : List Str} : ((es.map PyData.str).any fun y => PyData.eqv y (.str w)) = decide (w ∈ es) := by
  induction es with
  | nil => rfl
  | cons e es ih =>
    rw [List.map_cons, List.any_cons, ih, eqv_str, Bool.eq_iff_iff]
    simp only [Bool.or_eq_true, beq_iff_eq, decide_eq_true_eq, List.mem_cons]
    constructor
    · rintro (h | h)
      · exact .inl h.symm
      · exact .inr h
    · rintro (h | h)
      · exact .inl h.symm
      · exact .inr h
theorem any_none {es : List Str} : ((es.map PyData.str).any fun y => PyData.eqv y .none) = false := by
  induction es with
  | nil => rfl
  | cons e es ih => rw [List.map_cons, List.any_cons, ih]; rfl
theorem can_strs {es : List Str} (h : ∀ x ∈ es, PyData.strOk x = true) : PyData.canLayAll0 (es.map .str) = true := canAll_of fun x hx => by
  obtain ⟨e, he, rfl⟩ := List.mem_map.mp hx
  exact can_str (h e he)
theorem get_mid (pre : List PyData) (d : PyData) (r : List PyData) : (pre ++ (d :: r))[((pre.length : Nat) : Int).toNat]? = some d := by simp
def NotIn (l : List Str) (es : List Str) : Prop := match l with
  | [] => True
  | w :: _ => w ∉ es

theorem eat_ok {C : Cx} (X : Cok C) {n : Nat} {mu : Mu} {R D S : Addr} {l es : List Str} {K : PV → Mu → Prop} (hR : Row mu R D l) (hS : mu S = some (.list (es.map .str))) (hes : ∀ x ∈ es, PyData.strOk x = true)
    (h1 : ∀ w l', l = w :: l' → w ∈ es → ∀ mu', Only R mu mu' → Row mu' R D l' → K (.dat (.str w)) mu') (h2 : NotIn l es → K (.dat (.str "")) mu) : FnOk C (n + 1) "_law_eat" mu [.ref R, .ref S] K := by
  obtain ⟨⟨pre, q1, q2, q3⟩, hne, hok⟩ := hR
  refine enter X ["row", "some"] (by rfl) (by rfl) (by rfl) (by rfl) rfl (bind2 rfl (fun _ _ => by rfl)) (by decide) (by decide) rfl rfl rfl ?_
  intro L
  have hpl : pre.length ≤ 2000 := by rw [List.length_append] at q3; omega
  walk_at "W"
  cases l with
  | nil =>
    refine B_list (d := .none) q2 (by omega) (by omega) (get_mid _ _ _) ?_
    walk_at "W"
    refine O_notin_list hS (can_strs hes) shaped_none ⟨_, rfl, ?_⟩
    rw [any_none]
    refine ite_t rfl ?_
    walk_at "W"
    exact ⟨mu, fun _ _ e => e, h2 trivial⟩
  | cons w l =>
    refine B_list (d := .str w) q2 (by omega) (by omega) (get_mid _ _ _) ?_
    walk_at "W"
    refine O_notin_list hS (can_strs hes) (shaped_str (hok w List.mem_cons_self)) ⟨_, rfl, ?_⟩
    rw [any_str]
    by_cases hw : w ∈ es
    · rw [decide_eq_true hw]
      refine ite_f rfl ?_
      walk_at "W"
      refine ⟨_, _, _, rfl, rfl, q1, by walk_at "len", ?_⟩
      have e1 : storedP [(Str.ofString "words", PV.ref D), (Str.ofString "at", PV.dat (.int ((pre.length : Nat) : Int)))] "at" (.dat (.int (((pre.length : Nat) : Int) + 1))) = [(Str.ofString "words", PV.ref D), (Str.ofString "at", PV.dat (.int (((pre.length : Nat) : Int) + 1)))] := by rfl
      rw [e1]
      walk_at "W"
      refine ⟨_, fun _ _ e => e, h1 w l rfl hw _ (fun b hb => upd_ne _ hb) ⟨⟨pre ++ [.str w], ?_, ?_, ?_⟩, hne, fun x hx => hok x (List.mem_cons_of_mem _ hx)⟩⟩
      · show upd mu R _ R = _
        rw [upd_self, List.length_append]; rfl
      · show upd mu R _ D = _
        rw [upd_ne _ (Ne.symm hne), q2]; simp [rowL]
      · simpa [rowL] using q3
    · rw [decide_eq_false hw]
      refine ite_t rfl ?_
      walk_at "W"
      exact ⟨mu, fun _ _ e => e, h2 hw⟩
theorem take_ok {C : Cx} (X : Cok C) {n : Nat} {mu : Mu} {R D : Addr} {w : Str} {l : List Str} {K : PV → Mu → Prop} (hR : Row mu R D (w :: l)) (h : ∀ mu', Only R mu mu' → Row mu' R D l → K (.dat (.str w)) mu') : FnOk C (n + 1) "_law_take" mu [.ref R] K := by
  obtain ⟨⟨pre, q1, q2, q3⟩, hne, hok⟩ := hR
  refine enter X ["row"] (by rfl) (by rfl) (by rfl) (by rfl) rfl (bind1 rfl (fun _ => by rfl)) (by decide) (by decide) rfl rfl rfl ?_
  intro L
  have hpl : pre.length ≤ 2000 := by rw [List.length_append] at q3; omega
  have hlen : (pre ++ rowL (w :: l)).length = pre.length + (l.length + 2) := by simp [rowL]
  walk_at "W"
  refine C_len_list q2 (by rw [sizeLine_eq]; omega) ?_
  walk_at "W"
  refine C_min ?_
  rw [if_neg (by rw [hlen]; omega)]
  walk_at "W"
  refine ⟨_, _, _, rfl, rfl, q1, by walk_at "len", ?_⟩
  have e1 : storedP [(Str.ofString "words", PV.ref D), (Str.ofString "at", PV.dat (.int ((pre.length : Nat) : Int)))] "at" (.dat (.int (((pre.length : Nat) : Int) + 1))) = [(Str.ofString "words", PV.ref D), (Str.ofString "at", PV.dat (.int (((pre.length : Nat) : Int) + 1)))] := by rfl
  rw [e1]
  have k1 : upd mu R (.dict [(Str.ofString "words", PV.ref D), (Str.ofString "at", PV.dat (.int (((pre.length : Nat) : Int) + 1)))]) R = some (.dict [(Str.ofString "words", PV.ref D), (Str.ofString "at", PV.dat (.int (((pre.length : Nat) : Int) + 1)))]) := upd_self _ _ _
  have k2 : upd mu R (.dict [(Str.ofString "words", PV.ref D), (Str.ofString "at", PV.dat (.int (((pre.length : Nat) : Int) + 1)))]) D = some (.list (pre ++ rowL (w :: l))) := by rw [upd_ne _ (Ne.symm hne)]; exact q2
  have k3 : Only R mu (upd mu R (.dict [(Str.ofString "words", PV.ref D), (Str.ofString "at", PV.dat (.int (((pre.length : Nat) : Int) + 1)))])) := fun b hb => upd_ne _ hb
  generalize upd mu R (.dict [(Str.ofString "words", PV.ref D), (Str.ofString "at", PV.dat (.int (((pre.length : Nat) : Int) + 1)))]) = m1 at k1 k2 k3
  clear q1 q2
  walk_at "W"
  refine B_list (d := .str w) k2 (by omega) (by omega) (by rw [show (((pre.length : Nat) : Int) + 1 - 1) = ((pre.length : Nat) : Int) by omega]; exact get_mid _ _ _) ?_
  refine ⟨m1, fun _ _ e => e, h _ k3 ⟨⟨pre ++ [.str w], ?_, ?_, ?_⟩, hne, fun x hx => hok x (List.mem_cons_of_mem _ hx)⟩⟩
  · rw [k1, List.length_append]; rfl
  · rw [k2]; simp [rowL]
  · simpa [rowL] using q3
end
section
set_option maxRecDepth 100000
set_option maxHeartbeats 400000
theorem Row.cast {mu : Mu} {R D : Addr} {l l' : List Str} (h : Row mu R D l) (e : l = l') : Row mu R D l' := e ▸ h
theorem read_names_ok {C : Cx} (X : Cok C) {n : Nat} {mu : Mu} {R D : Addr} {x sign : Str} {ys rest : List Str} {K : PV → Mu → Prop} (hR : Row mu R D (x :: (ys.flatMap fun y => [sign, y]) ++ rest)) (hr : NotIn rest [sign]) (hso : PyData.strOk sign = true) (hse : sign ≠ "") (hyl : ys.length ≤ 100)
    (h : ∀ mu', Only R mu mu' → Row mu' R D rest → K (.dat (.tuple ((x :: ys).map .str))) mu') : FnOk C (n + 2) "_law_read_names" mu [.ref R, .dat (.str sign)] K := by
  refine enter X ["row", "sign"] (by rfl) (by rfl) (by rfl) (by rfl) rfl (bind2 rfl (fun _ _ => by rfl)) (by decide) (by decide) rfl rfl rfl ?_
  intro L
  walk_at "W"
  refine take_ok X hR fun m1 hO1 hR1 => ?_
  walk_at "W"
  refine ⟨rfl, by walk_at "len", fun F hF => ?_⟩
  have hR2 : Row (upd m1 F (.list [.str x])) R D _ := hR1.new hF
  have e2 : Ext R mu (upd m1 F (.list [.str x])) := ((Ext.refl R mu).only hO1).new hF
  have hFR := hR1.neR hF
  have hFD := hR1.neD hF
  walk_at "W"
  refine S_while (fun k S' => ∃ pre post, ys = pre ++ post ∧ post.length = k ∧ S'.loc = ([("found", .ref F), ("sign", .dat (.str sign)), ("row", .ref R)] : List (Str × PV)) ∧ S'.mu F = some (.list ((x :: pre).map .str)) ∧ Ext R mu S'.mu ∧ Row S'.mu R D ((post.flatMap fun y => [sign, y]) ++ rest)) ys.length
    ⟨[], ys, rfl, rfl, rfl, upd_self _ _ _, e2, hR2⟩ ?_
  rintro k ⟨loc, m⟩ ⟨pre, post, hps, hk, rfl, hFm, he, hRm⟩
  have hFm : m F = some (.list ((x :: pre).map .str)) := hFm
  have he : Ext R mu m := he
  have hRm : Row m R D ((post.flatMap fun y => [sign, y]) ++ rest) := hRm
  walk_at "W"
  refine ⟨rfl, by walk_at "len", fun B hB => ?_⟩
  have hBF : F ≠ B := fun q => by rw [← q, hFm] at hB; cases hB
  have hF2 : upd m B (.list (([sign] : List Str).map .str)) F = some (.list ((x :: pre).map .str)) := by rw [upd_ne _ hBF]; exact hFm
  have he2 : Ext R mu (upd m B (.list (([sign] : List Str).map .str))) := he.new hB
  walk_at "W"
  refine eat_ok X (es := [sign]) (hRm.new hB) (upd_self _ _ _) (fun z hz => by rw [List.mem_singleton.mp hz]; exact hso) (fun w l' hl hw m2 hO2 hRm2 => ?_) (fun hn => ?_)
  · cases post with
    | nil =>
      exfalso
      change rest = w :: l' at hl
      rw [hl] at hr
      exact hr hw
    | cons y post =>
      change sign :: y :: ((post.flatMap fun y => [sign, y]) ++ rest) = w :: l' at hl
      cases hl
      have hyo := hRm2.ok y List.mem_cons_self
      have hF3 := (hO2 F hFR).trans hF2
      have he3 := he2.only hO2
      walk_at "W"
      refine O_ne (by walk_at "sh") (by walk_at "sh") ⟨_, rfl, ite_t (eqv_ne hse) ?_⟩
      walk_at "W"
      refine ⟨Ty_list hF3, ?_⟩
      walk_at "W"
      refine take_ok X hRm2 fun m3 hO3 hR3 => ?_
      have hF4 := (hO3 F hFR).trans hF3
      have he4 := he3.only hO3
      walk_at "W"
      have hpl : pre.length ≤ 100 := by rw [hps, List.length_append] at hyl; omega
      refine C_append hF4 (by rw [List.length_map, sizeLine_eq]; show pre.length + 1 ≤ _; omega) ?_
      refine ⟨rfl, ?_⟩
      walk_at "W"
      refine ⟨post.length, ⟨[("found", .ref F), ("sign", .dat (.str sign)), ("row", .ref R)], upd m3 F (.list ((x :: pre).map .str ++ [.str y]))⟩, by rw [← hk]; exact Nat.lt_succ_self _, ⟨?_, fun _ _ e => e⟩, pre ++ [y], post, by rw [hps]; simp, rfl, rfl, ?_, ?_, hR3.set hFR hFD⟩
      · walk_at "sub"
      · show upd m3 F _ F = _
        rw [upd_self]; simp
      · intro a o ha e
        show upd m3 F _ a = _
        have := he4 a o ha e
        rw [upd_ne _ fun q => ?_]
        · exact this
        · rw [q, hO1 F hFR |>.symm, hF] at e; cases e
  · cases post with
    | cons y post => exact absurd List.mem_cons_self hn
    | nil =>
      rw [List.append_nil] at hps
      walk_at "W"; walk_at "Q"
      walk_at "W"
      have hpl : pre.length ≤ 100 := by rw [hps] at hyl; omega
      refine C_tuple hF2 (by rw [List.length_map, sizeLine_eq]; show pre.length + 1 ≤ _; omega) ?_
      rw [hps] at h
      exact ⟨_, he2.ovr, h _ (only_ovr R mu _) (hR.ovr he2 (hRm.new hB))⟩
end
section
set_option maxRecDepth 100000
set_option maxHeartbeats 400000
def Sm.ws (s : Sm) : List Str := s.hd :: s.tl.flatMap fun y => ["+", y]
def Cl.ws : Cl → List Str
  | .un g s => g :: s.ws
  | .inn a b => a.ws ++ ((["in"] : List Str) ++ b.ws)
theorem read_sum_ok {C : Cx} (X : Cok C) {n : Nat} {mu : Mu} {R D : Addr} {s : Sm} {rest : List Str} {K : PV → Mu → Prop} (hs : s.Ok) (hR : Row mu R D (s.ws ++ rest)) (hr : NotIn rest ["+"])
    (h : ∀ mu', Only R mu mu' → Row mu' R D rest → K (.dat s.b) mu') : FnOk C (n + 3) "_law_read_sum" mu [.ref R] K := by
  obtain ⟨hd, tl⟩ := s
  have hl : tl.length ≤ 2 := hs.len
  refine enter X ["row"] (by rfl) (by rfl) (by rfl) (by rfl) rfl (bind1 rfl (fun _ => by rfl)) (by decide) (by decide) rfl rfl rfl ?_
  intro L
  walk_at "W"
  refine read_names_ok X hR hr (by decide +kernel) (by decide) (by show tl.length ≤ 100; omega) fun m1 hO1 hR1 => ?_
  walk_at "W"
  refine B_tup (j := 0) (d := .str hd) (by decide) (by decide) (by simp [seqIndex?] <;> omega) (by rfl) ?_
  walk_at "W"
  refine ⟨rfl, by walk_at "len", ?_⟩
  walk_at "W"
  refine S_for (fun items i S' => items = tl.map .str ∧ S'.loc = ([("found", .dat (bF (nameB hd) (tl.take i))), ("names", .dat (.tuple ((hd :: tl).map .str))), ("row", .ref R)] : List (Str × PV)) ∧ S'.mu = m1) ?_
  refine Src_tup ?_
  walk_at "W"
  refine ⟨_, rfl, ?_⟩
  walk_at "W"
  refine Z_tup 1 (tl.length + 1) (by simp only [List.length_map, List.length_cons, sizeLine_eq]; omega) (.inr ⟨1, rfl, by simp only [List.length_cons, List.length_map]; omega⟩) (.inl ⟨rfl, by simp⟩) ?_
  rw [show (List.take (tl.length + 1 - 1) (List.drop 1 ((hd :: tl).map PyData.str))) = tl.map .str by simp [List.take_of_length_le]]
  refine ⟨_, rfl, ⟨rfl, rfl, rfl⟩, ?_, ?_⟩
  · rintro i d ⟨loc, m⟩ hi ⟨hit, rfl, hm⟩
    have hm : m = m1 := hm
    subst hm
    rw [List.getElem?_map] at hi
    cases hc : tl[i]? with
    | none => rw [hc] at hi; simp at hi
    | some y =>
      rw [hc] at hi
      obtain rfl : PyData.str y = d := by simpa using hi
      walk_at "W"
      refine ⟨rfl, by walk_at "len", ?_⟩
      walk_at "W"
      refine ⟨rfl, by walk_at "len", ?_⟩
      walk_at "W"
      refine ⟨⟨[("found", .dat (bF (nameB hd) (tl.take (i + 1)))), ("names", .dat (.tuple ((hd :: tl).map .str))), ("row", .ref R)], m⟩, ⟨?_, fun _ _ e => e⟩, hit, rfl, rfl⟩
      rw [List.take_add_one, hc, show (some y).toList = [y] from rfl, bF_snoc]
      walk_at "sub"
  · rintro ⟨loc, m⟩ ⟨hit, rfl, hm⟩
    have hm : m = m1 := hm
    subst hm
    rw [List.length_map, List.take_length]
    walk_at "W"
    exact ⟨m, fun _ _ e => e, h m hO1 hR1⟩
end
section
set_option maxRecDepth 100000
set_option maxHeartbeats 400000
theorem not_mem_of {l es : List Str} {x : Str} (h : x ∈ l) (hl : l.all (fun y => decide (y ∉ es)) = true) : x ∉ es := of_decide_eq_true (List.all_eq_true.mp hl x h)
theorem ne_of_mem {l : List Str} {x y : Str} (h : x ∈ l) (hl : l.all (fun z => decide (z ≠ y)) = true) : x ≠ y := of_decide_eq_true (List.all_eq_true.mp hl x h)
def NN : List Str := ["A", "B", "f", "x"]
theorem cl_head {c : Cl} (h : c.Ok) : ∃ w l, c.ws = w :: l ∧ w ∈ (["some", "no", "lone", "one", "A", "B", "f", "x"] : List Str) := by
  cases c with
  | un g s =>
    refine ⟨g, _, rfl, ?_⟩
    have := h.1
    simp only [List.mem_cons, List.not_mem_nil, or_false] at this ⊢
    rcases this with h | h | h | h <;> simp [h]
  | inn a b =>
    refine ⟨a.hd, _, rfl, ?_⟩
    have := h.1.hd
    simp only [List.mem_cons, List.not_mem_nil, or_false] at this ⊢
    rcases this with h | h | h | h <;> simp [h]
def clsW (cs : List Cl) : List Str := cs.flatMap Cl.ws
theorem cls_not {cs : List Cl} {rest : List Str} (h : ∀ c ∈ cs, c.Ok) : NotIn (clsW cs ++ ("}" : Str) :: rest) ["+"] := by
  cases cs with
  | nil => show ("}" : Str) ∉ _; decide +kernel
  | cons c cs =>
    obtain ⟨w, l, e, hw⟩ := cl_head (h c List.mem_cons_self)
    show NotIn ((c.ws ++ clsW cs) ++ _) _
    rw [e]
    exact not_mem_of hw (by decide +kernel)
theorem close_any {w : Str} : ([.str "}", .none] : List PyData).any (fun y => PyData.eqv y (.str w)) = decide (w = "}") := by
  rw [List.any_cons, List.any_cons, List.any_nil, eqv_str, Bool.eq_iff_iff]
  simp only [Bool.or_eq_true, beq_iff_eq, decide_eq_true_eq]
  constructor
  · rintro (h | h | h)
    · exact h.symm
    · cases h
    · cases h
  · intro h; exact .inl h.symm
theorem close_neg {w : Str} (h : w ≠ "}") : (!(([.str "}", .none] : List PyData).any fun y => PyData.eqv y (.str w))) = true := by rw [close_any, decide_eq_false h]; rfl
theorem gg_ok : ∀ z ∈ GG, PyData.strOk z = true := fun z hz => List.all_eq_true.mp (show GG.all PyData.strOk = true by decide +kernel) z hz
theorem fit_bnd {d : PyData} (h : ∃ k, Fit k d) : d.canLay0 = true := let ⟨_, q⟩ := h; q.can
theorem read_claims_ok {C : Cx} (X : Cok C) {n : Nat} {mu : Mu} {R D : Addr} {cs : List Cl} {rest : List Str} {K : PV → Mu → Prop} (hc : Cls cs) (hR : Row mu R D (("{" : Str) :: (clsW cs ++ ("}" : Str) :: rest)))
    (h : ∀ mu', Only R mu mu' → Row mu' R D rest → K (.dat (clsB cs)) mu') : FnOk C (n + 4) "_law_read_claims" mu [.ref R] K := by
  have hcl : cs.length ≤ 2 := hc.2
  refine enter X ["row"] (by rfl) (by rfl) (by rfl) (by rfl) rfl (bind1 rfl (fun _ => by rfl)) (by decide) (by decide) rfl rfl rfl ?_
  intro L
  walk_at "W"
  refine ⟨rfl, by walk_at "len", fun F hF => ?_⟩
  have hR0 := hR.new (o := .list []) hF
  have hFR := hR.neR hF
  have hFD := hR.neD hF
  have e0 : Ext R mu (upd mu F (.list [])) := (Ext.refl R mu).new hF
  have hF0 : upd mu F (.list []) F = some (.list []) := upd_self _ _ _
  have hF1 : mu F = none := hF
  show EvS _ _ _ _ ⟨_, upd mu F (.list [])⟩ _
  generalize upd mu F (.list []) = m0 at hR0 e0 hF0 ⊢
  walk_at "W"
  refine ⟨rfl, by walk_at "len", fun B hB => ?_⟩
  walk_at "W"
  refine eat_ok X (es := ["{"]) (hR0.new hB) (upd_self _ _ _) (fun z hz => by rw [List.mem_singleton.mp hz]; decide +kernel) (fun w l' hl hw m1 hO1 hR1 => ?_) (fun hn => absurd List.mem_cons_self hn)
  cases hl
  have e1 := (e0.new hB).only hO1
  have hFm1 : m1 F = some (.list []) := (hO1 F hFR).trans (by rw [upd_ne _ fun q => by rw [← q, hF0] at hB; cases hB]; exact hF0)
  refine ⟨rfl, ?_⟩
  walk_at "W"
  refine S_while (fun k S' => ∃ pre post, cs = pre ++ post ∧ post.length = k ∧ S'.loc = ([("found", .ref F), ("row", .ref R)] : List (Str × PV)) ∧ S'.mu F = some (.list (pre.map Cl.b)) ∧ Ext R mu S'.mu ∧ Row S'.mu R D (clsW post ++ ("}" : Str) :: rest)) cs.length
    ⟨[], cs, rfl, rfl, rfl, hFm1, e1, hR1⟩ ?_
  rintro k ⟨loc, m⟩ ⟨pre, post, hps, hk, rfl, hFm, he, hRm⟩
  have hFm : m F = some (.list (pre.map Cl.b)) := hFm
  have he : Ext R mu m := he
  have hRm : Row m R D (clsW post ++ ("}" : Str) :: rest) := hRm
  have hpl : pre.length ≤ 2 := by rw [hps, List.length_append] at hcl; omega
  have hpok : ∀ c ∈ post, c.Ok := fun c hcm => hc.1 c (by rw [hps]; exact List.mem_append_right _ hcm)
  obtain ⟨p0, q1, q2, q3⟩ := hRm.ex
  have hp0 : p0.length ≤ 2000 := by rw [List.length_append] at q3; omega
  walk_at "W"
  cases post with
  | nil =>
    refine B_list (d := .str "}") q2 (by omega) (by omega) (get_mid _ _ _) ?_
    walk_at "W"
    refine ⟨rfl, by walk_at "len", ?_⟩
    refine O_notin_tup (by walk_at "can") (by walk_at "sh") ⟨_, rfl, ite_f (by rfl) ?_⟩
    clear q1 q2
    walk_at "W"
    refine ⟨rfl, by walk_at "len", fun B2 hB2 => ?_⟩
    have hF2 : upd m B2 (.list ((["}"] : List Str).map .str)) F = some (.list (pre.map Cl.b)) := by rw [upd_ne _ fun q => by rw [← q, hFm] at hB2; cases hB2]; exact hFm
    have he2 : Ext R mu (upd m B2 (.list ((["}"] : List Str).map .str))) := he.new hB2
    walk_at "W"
    refine eat_ok X (es := ["}"]) (hRm.new hB2) (upd_self _ _ _) (fun z hz => by rw [List.mem_singleton.mp hz]; decide +kernel) (fun w l' hl hw m2 hO2 hR2 => ?_) (fun hn => absurd List.mem_cons_self hn)
    cases hl
    walk_at "W"; walk_at "Q"
    walk_at "W"
    rw [List.append_nil] at hps
    refine C_tuple ((hO2 F hFR).trans hF2) (by rw [List.length_map, sizeLine_eq]; omega) ?_
    rw [hps] at h
    exact ⟨_, (he2.only hO2).ovr, h _ (only_ovr R mu _) (hR.ovr (he2.only hO2) hR2)⟩
  | cons c post =>
    obtain ⟨w, l, ew, hw⟩ := cl_head (hpok c List.mem_cons_self)
    have hrow : clsW (c :: post) ++ ("}" : Str) :: rest = c.ws ++ (clsW post ++ ("}" : Str) :: rest) := by show (c.ws ++ clsW post) ++ _ = _; rw [List.append_assoc]
    have q2' := q2
    rw [hrow, ew] at q2'
    have hnext : NotIn (clsW post ++ ("}" : Str) :: rest) ["+"] := cls_not fun c hcm => hpok c (List.mem_cons_of_mem _ hcm)
    have hwo : PyData.strOk w = true := List.all_eq_true.mp (show (["some", "no", "lone", "one", "A", "B", "f", "x"] : List Str).all PyData.strOk = true by decide +kernel) _ hw
    refine B_list (d := .str w) q2' (by omega) (by omega) (get_mid _ _ _) ?_
    walk_at "W"
    refine ⟨rfl, by walk_at "len", ?_⟩
    refine O_notin_tup (by walk_at "can") (by walk_at "sh") ⟨_, rfl, ite_t (close_neg (ne_of_mem hw (by decide +kernel))) ?_⟩
    clear q1 q2 q2'
    walk_at "W"
    refine ⟨rfl, by walk_at "len", fun B2 hB2 => ?_⟩
    have hRm2 := (hRm.new (o := .list (GG.map .str)) hB2).cast hrow
    have hF2 : upd m B2 (.list (GG.map .str)) F = some (.list (pre.map Cl.b)) := by rw [upd_ne _ fun q => by rw [← q, hFm] at hB2; cases hB2]; exact hFm
    have he2 : Ext R mu (upd m B2 (.list (GG.map .str))) := he.new hB2
    have hSS : upd m B2 (.list (GG.map .str)) B2 = some (.list (GG.map .str)) := upd_self _ _ _
    have fin : ∀ m3 m4 (d : PyData), d = c.b → m3 F = some (.list (pre.map Cl.b)) → Ext R mu m3 → Row m3 R D (clsW post ++ ("}" : Str) :: rest) → m4 = upd m3 F (.list (pre.map Cl.b ++ [d])) → ∀ loc', (∀ x p, ([("found", .ref F), ("row", .ref R)] : List (Str × PV)).lookup x = some p → loc'.lookup x = some p) →
        ∃ m S3, m < k ∧ Sub S3 ⟨loc', m4⟩ ∧ ∃ pre post, cs = pre ++ post ∧ post.length = m ∧ S3.loc = ([("found", .ref F), ("row", .ref R)] : List (Str × PV)) ∧ S3.mu F = some (.list (pre.map Cl.b)) ∧ Ext R mu S3.mu ∧ Row S3.mu R D (clsW post ++ ("}" : Str) :: rest) := by
      intro m3 m4 d hd h1 h2 h3 h4 loc' hloc
      refine ⟨post.length, ⟨[("found", .ref F), ("row", .ref R)], m4⟩, by rw [← hk]; exact Nat.lt_succ_self _, ⟨hloc, fun _ _ e => e⟩, pre ++ [c], post, by rw [hps]; simp, rfl, rfl, ?_, ?_, ?_⟩
      · show m4 F = _
        rw [h4, upd_self, hd]; simp
      · rw [h4]; exact h2.set hF1
      · rw [h4]; exact h3.set hFR hFD
    show EvL _ _ _ _ _ ⟨_, upd m B2 (.list (GG.map .str))⟩ _
    generalize upd m B2 (.list (GG.map .str)) = m1' at hRm2 hF2 he2 hSS ⊢
    have hco := hpok c List.mem_cons_self
    walk_at "W"
    cases c with
    | un g s =>
      refine eat_ok X (es := GG) hRm2 hSS gg_ok (fun w' l' hl hw' m2 hO2 hR2 => ?_) (fun hn => absurd hco.1 hn)
      change g :: (s.ws ++ (clsW post ++ ("}" : Str) :: rest)) = w' :: l' at hl
      cases hl
      have hF3 := (hO2 F hFR).trans hF2
      have he3 := he2.only hO2
      walk_at "W"
      refine read_sum_ok X (n := n) hco.2 hR2 hnext fun m3 hO3 hR3 => ?_
      have hF4 := (hO3 F hFR).trans hF3
      have he4 := he3.only hO3
      have hgo := gg_ok g hw'
      walk_at "W"
      refine O_eq (by walk_at "sh") (by walk_at "sh") ⟨_, rfl, ite_f (by rw [eqv_str]; exact beq_false_of_ne (ne_of_mem hw' (by decide +kernel))) ?_⟩
      walk_at "W"
      refine ⟨Ty_list hF4, ?_⟩
      walk_at "W"
      refine ⟨rfl, by walk_at "len", ?_⟩
      walk_at "W"
      refine C_append hF4 (by rw [List.length_map, sizeLine_eq]; omega) ?_
      refine ⟨rfl, ?_⟩
      walk_at "W"
      exact fin m3 _ _ rfl hF4 he4 hR3 rfl _ (by walk_at "sub")
    | inn a b =>
      have hah : a.hd ∉ GG := not_mem_of hco.1.hd (by decide +kernel)
      refine eat_ok X (es := GG) hRm2 hSS gg_ok (fun w' l' hl hw' m2 hO2 hR2 => ?_) (fun hn => ?_)
      · exfalso
        change a.hd :: _ = w' :: l' at hl
        cases hl
        exact hah hw'
      · walk_at "W"
        have hRa : Row m1' R D (a.ws ++ (("in" : Str) :: (b.ws ++ (clsW post ++ ("}" : Str) :: rest)))) := hRm2.cast (by show (a.ws ++ (_ ++ b.ws)) ++ _ = _; simp)
        refine read_sum_ok X (n := n) hco.1 hRa (by show ("in" : Str) ∉ _; decide +kernel) fun m3 hO3 hR3 => ?_
        have hF3 := (hO3 F hFR).trans hF2
        have he3 := he2.only hO3
        walk_at "W"; walk_at "Q"
        walk_at "W"
        refine ⟨Ty_list hF3, ?_⟩
        walk_at "W"
        refine take_ok X hR3 fun m4 hO4 hR4 => ?_
        have hF4 := (hO4 F hFR).trans hF3
        have he4 := he3.only hO4
        walk_at "W"
        refine read_sum_ok X (n := n) hco.2 hR4 hnext fun m5 hO5 hR5 => ?_
        have hF5 := (hO5 F hFR).trans hF4
        have he5 := he4.only hO5
        walk_at "W"
        refine ⟨rfl, by walk_at "len", ?_⟩
        walk_at "W"
        refine C_append hF5 (by rw [List.length_map, sizeLine_eq]; omega) ?_
        refine ⟨rfl, ?_⟩
        walk_at "W"
        exact fin m5 _ _ rfl hF5 he5 hR5 rfl _ (by walk_at "sub")
end
section
set_option maxRecDepth 100000
set_option maxHeartbeats 400000
def nmT (k : Nat) : List Str := (["y", "z"] : List Str).take (k - 1)
def multW (m : Str) : List Str := if m = "" then [] else [m]
def Dc.ws (c : Dc) : List Str := (if c.disj = true then (["disj"] : List Str) else []) ++ ((("x" : Str) :: ((nmT c.k).flatMap fun y => [",", y])) ++ ((":" : Str) :: (multW c.mult ++ c.s.ws)))
def dcsW : List Dc → List Str
  | [] => []
  | [c] => c.ws
  | c :: d :: r => c.ws ++ ((",": Str) :: dcsW (d :: r))
def AM : List Str := ["one", "lone", "some", "set"]
theorem am_ok : ∀ z ∈ AM, PyData.strOk z = true := fun z hz => List.all_eq_true.mp (show AM.all PyData.strOk = true by decide +kernel) z hz
/-- a count that may stand: eaten, or not there -/
theorem eat_mult {C : Cx} (X : Cok C) {n : Nat} {mu : Mu} {R D S : Addr} {m : Str} {s : Sm} {rest es : List Str} {K : PV → Mu → Prop} (hs : s.Ok) (hm : m ∈ (("" : Str) :: es)) (hes : ∀ x ∈ es, PyData.strOk x = true) (hne : ∀ x ∈ NN, x ∉ es) (he : ("" : Str) ∉ es)
    (hR : Row mu R D (multW m ++ (s.ws ++ rest))) (hS : mu S = some (.list (es.map .str)))
    (h : ∀ mu', Only R mu mu' → Row mu' R D (s.ws ++ rest) → K (.dat (.str m)) mu') : FnOk C (n + 1) "_law_eat" mu [.ref R, .ref S] K := by
  rcases List.mem_cons.mp hm with rfl | hm
  · refine eat_ok X hR hS hes (fun w l' hl hw => ?_) (fun _ => h mu (fun _ _ => rfl) hR)
    exfalso
    change s.hd :: _ = w :: l' at hl
    cases hl
    exact hne _ hs.hd hw
  · have hmn : m ≠ "" := fun q => he (q ▸ hm)
    have e : multW m = [m] := if_neg hmn
    rw [e] at hR
    refine eat_ok X hR hS hes (fun w l' hl hw m2 hO2 hR2 => ?_) (fun hn => absurd hm hn)
    change m :: (s.ws ++ rest) = w :: l' at hl
    cases hl
    exact h m2 hO2 hR2
theorem nm_take {k : Nat} (h1 : 1 ≤ k) (h2 : k ≤ 3) : xyz.take k = ((("x" : Str) :: nmT k).map .str) := by
  obtain h | h | h : k = 1 ∨ k = 2 ∨ k = 3 := by omega
  all_goals subst h; rfl
theorem nm_len (k : Nat) : (nmT k).length ≤ 100 := by unfold nmT; rw [List.length_take]; exact Nat.le_trans (Nat.min_le_right _ _) (by decide)
theorem eqv_list_nil {xs : List PyData} : PyData.eqv (.list xs) (.list []) = decide (xs.length = 0) := by
  cases xs with
  | nil => rfl
  | cons x r => rfl

theorem fit_list_shaped {k : Nat} {l : List PyData} (h : ∀ x ∈ l, Fit k x) (hk : k + 1 ≤ 64) : SeqAt.shaped (.list l) = true := by
  have h1 := canAll_of fun x hx => (h x hx).can
  have h2 := dep_all fun x hx => (h x hx).dep
  refine shaped_of (by simp [PyData.canLay0, h1]) ?_
  simp only [PyData.depth]; omega
theorem dcsW_cons (c : Dc) (cs : List Dc) : dcsW (c :: cs) = c.ws ++ (match cs with | [] => [] | d :: r => ((",": Str) :: dcsW (d :: r))) := by
  cases cs with
  | nil => show c.ws = c.ws ++ []; simp
  | cons d r => rfl
def tailW (cs : List Dc) (rest : List Str) : List Str := match cs with
  | [] => rest
  | d :: r => (",": Str) :: (dcsW (d :: r) ++ rest)
theorem dcsW_app (c : Dc) (cs : List Dc) (rest : List Str) : dcsW (c :: cs) ++ rest = c.ws ++ tailW cs rest := by
  rw [dcsW_cons]
  cases cs with
  | nil => simp [tailW]
  | cons d r => simp [tailW]
/-- one declaration, from behind the comma -/
theorem tail_not {cs : List Dc} {rest es : List Str} (h1 : (",": Str) ∉ es) (h2 : NotIn rest es) : NotIn (tailW cs rest) es := by
  cases cs with
  | nil => exact h2
  | cons d r => exact h1
end
section
set_option maxRecDepth 100000
set_option maxHeartbeats 400000
theorem EvT.to {C : Cx} {n : Nat} {env : Env} {e : Expr} {S : St} {Q : Bool → Mu → Prop} (b0 : Bool) (P : Mu → Prop) (h : EvT C n env e S fun b m => b = b0 ∧ P m) (k : ∀ m, P m → Q b0 m) : EvT C n env e S Q := fun A s a r =>
  wpAny_mono (h A s a r) (fun b s' ⟨m, x1, x2, x3, x4⟩ => ⟨m, x1, x2, by rw [x3]; exact k m x4⟩) fun _ _ x => x

def disjS (b : Bool) : Str := if b = true then "disj" else ""
theorem eat_disj {C : Cx} (X : Cok C) {n : Nat} {mu : Mu} {R D S : Addr} {b : Bool} {l : List Str} {K : PV → Mu → Prop} (hR : Row mu R D ((if b = true then (["disj"] : List Str) else []) ++ (("x" : Str) :: l))) (hS : mu S = some (.list ((["disj"] : List Str).map .str)))
    (h : ∀ mu', Only R mu mu' → Row mu' R D (("x" : Str) :: l) → K (.dat (.str (disjS b))) mu') : FnOk C (n + 1) "_law_eat" mu [.ref R, .ref S] K := by
  cases b with
  | true =>
    refine eat_ok X (es := ["disj"]) hR hS (fun z hz => by rw [List.mem_singleton.mp hz]; decide +kernel) (fun w l' hl hw m2 hO2 hR2 => ?_) (fun hn => absurd List.mem_cons_self hn)
    change ("disj" : Str) :: ("x" : Str) :: l = w :: l' at hl
    cases hl
    exact h m2 hO2 hR2
  | false =>
    refine eat_ok X (es := ["disj"]) hR hS (fun z hz => by rw [List.mem_singleton.mp hz]; decide +kernel) (fun w l' hl hw => ?_) (fun _ => h mu (fun _ _ => rfl) hR)
    exfalso
    change ("x" : Str) :: l = w :: l' at hl
    cases hl
    revert hw
    decide +kernel
theorem disj_ne {b : Bool} : (!PyData.eqv (.str (disjS b)) (.str "")) = b := by cases b <;> rfl
theorem disj_ok {b : Bool} : PyData.strOk (disjS b) = true := by cases b <;> decide +kernel
theorem read_decls_ok {C : Cx} (X : Cok C) {n : Nat} {mu : Mu} {R D : Addr} {ms : List Str} {cs : List Dc} {bg en : Str} {rest : List Str} {K : PV → Mu → Prop} (hc : Dcs ms cs) (hM : Ms ms) (hms : ∀ m ∈ ms, m ∈ (("" : Str) :: AM)) (hbe : (bg = "{" ∧ en = "}") ∨ (bg = "[" ∧ en = "]"))
    (hR : Row mu R D (bg :: (dcsW cs ++ en :: rest))) (h : ∀ mu', Only R mu mu' → Row mu' R D rest → K (.dat (dcsB cs)) mu') : FnOk C (n + 4) "_law_read_decls" mu [.ref R, .dat (.str bg), .dat (.str en)] K := by
  have hcl : cs.length ≤ 2 := hc.2
  have hbo : PyData.strOk bg = true := by rcases hbe with ⟨rfl, _⟩ | ⟨rfl, _⟩ <;> decide +kernel
  have heo : PyData.strOk en = true := by rcases hbe with ⟨_, rfl⟩ | ⟨_, rfl⟩ <;> decide +kernel
  have hb0 : bg ≠ "" := by rcases hbe with ⟨rfl, _⟩ | ⟨rfl, _⟩ <;> decide
  have he0 : en ≠ "" := by rcases hbe with ⟨_, rfl⟩ | ⟨_, rfl⟩ <;> decide
  have he1 : en ∉ (["+"] : List Str) ∧ en ∉ ([","] : List Str) ∧ ("disj" : Str) ∉ ([en] : List Str) ∧ ("x" : Str) ∉ ([en] : List Str) := by rcases hbe with ⟨_, rfl⟩ | ⟨_, rfl⟩ <;> decide +kernel
  clear hbe
  refine enter X ["row", "begin", "end"] (by rfl) (by rfl) (by rfl) (by rfl) rfl (bind3 rfl (fun _ _ _ => by rfl)) (by decide) (by decide) rfl rfl rfl ?_
  intro L
  walk_at "W"
  refine ⟨rfl, by walk_at "len", fun F hF => ?_⟩
  have hR0 := hR.new (o := .list []) hF
  have hFR := hR.neR hF
  have hFD := hR.neD hF
  have e0 : Ext R mu (upd mu F (.list [])) := (Ext.refl R mu).new hF
  have hF0 : upd mu F (.list []) F = some (.list []) := upd_self _ _ _
  have hF1 : mu F = none := hF
  show EvS _ _ _ _ ⟨_, upd mu F (.list [])⟩ _
  generalize upd mu F (.list []) = m0 at hR0 e0 hF0 ⊢
  walk_at "W"
  refine ⟨rfl, by walk_at "len", fun B hB => ?_⟩
  walk_at "W"
  refine eat_ok X (es := [bg]) (hR0.new hB) (upd_self _ _ _) (fun z hz => by rw [List.mem_singleton.mp hz]; exact hbo) (fun w l' hl hw m1 hO1 hR1 => ?_) (fun hn => absurd List.mem_cons_self hn)
  cases hl
  have e1 := (e0.new hB).only hO1
  have hFm1 : m1 F = some (.list []) := (hO1 F hFR).trans (by rw [upd_ne _ fun q => by rw [← q, hF0] at hB; cases hB]; exact hF0)
  walk_at "W"
  refine O_eq (by walk_at "sh") (by walk_at "sh") ⟨_, rfl, ite_f (by rw [eqv_str]; exact beq_false_of_ne hb0) ?_⟩
  walk_at "W"
  refine ⟨rfl, by walk_at "len", fun B2 hB2 => ?_⟩
  have hF2 : upd m1 B2 (.list (([en] : List Str).map .str)) F = some (.list []) := by rw [upd_ne _ fun q => by rw [← q, hFm1] at hB2; cases hB2]; exact hFm1
  walk_at "W"
  cases cs with
  | nil =>
    refine eat_ok X (es := [en]) (hR1.new hB2) (upd_self _ _ _) (fun z hz => by rw [List.mem_singleton.mp hz]; exact heo) (fun w l' hl hw m2 hO2 hR2 => ?_) (fun hn => absurd List.mem_cons_self hn)
    cases hl
    walk_at "W"
    refine O_ne (by walk_at "sh") (by walk_at "sh") ⟨_, rfl, ite_t (eqv_ne he0) ?_⟩
    refine ite_t rfl ?_
    walk_at "W"
    refine ⟨rfl, by walk_at "len", ?_⟩
    exact ⟨_, ((e1.new hB2).only hO2).ovr, h _ (only_ovr R mu _) (hR.ovr ((e1.new hB2).only hO2) hR2)⟩
  | cons c0 cs0 =>
    have hhead : NotIn (dcsW (c0 :: cs0) ++ en :: rest) [en] := by
      rw [dcsW_app]
      unfold Dc.ws
      cases c0.disj
      · exact he1.2.2.2
      · exact he1.2.2.1
    refine eat_ok X (es := [en]) (hR1.new hB2) (upd_self _ _ _) (fun z hz => by rw [List.mem_singleton.mp hz]; exact heo) (fun w l' hl hw m2 hO2 hR2 => ?_) (fun _ => ?_)
    · exfalso; rw [hl] at hhead; exact hhead hw
    walk_at "W"; walk_at "Q"
    walk_at "W"
    refine ite_f rfl ?_
    walk_at "W"
    refine S_while (fun k S' => ∃ pre post, c0 :: cs0 = pre ++ post ∧ post.length = k ∧ S'.loc = ([("found", .ref F), ("end", .dat (.str en)), ("begin", .dat (.str bg)), ("row", .ref R)] : List (Str × PV)) ∧ S'.mu F = some (.list (pre.map Dc.b)) ∧ Ext R mu S'.mu ∧ Row S'.mu R D (if pre.length = 0 then dcsW post ++ en :: rest else tailW post (en :: rest))) (c0 :: cs0).length
      ⟨[], c0 :: cs0, rfl, rfl, rfl, hF2, e1.new hB2, hR1.new hB2⟩ ?_
    rintro k ⟨loc, m⟩ ⟨pre, post, hps, hk, rfl, hFm, he, hRm⟩
    have hFm : m F = some (.list (pre.map Dc.b)) := hFm
    have he : Ext R mu m := he
    have hRm : Row m R D (if pre.length = 0 then dcsW post ++ en :: rest else tailW post (en :: rest)) := hRm
    have hpl : pre.length ≤ 2 := by rw [hps, List.length_append] at hcl; omega
    have hpre : ∀ x ∈ pre.map Dc.b, Fit 4 x := fun x hx => by
      obtain ⟨c, hcm, rfl⟩ := List.mem_map.mp hx
      exact (hc.1 c (by rw [hps]; exact List.mem_append_left _ hcm)).fit hM
    have hlen0 : PyData.eqv (.list (pre.map Dc.b)) (.list []) = decide (pre.length = 0) := by rw [eqv_list_nil, List.length_map]
    cases post with
    | nil =>
      have hp0 : ¬ pre.length = 0 := fun q => by rw [List.eq_nil_of_length_eq_zero q] at hps; cases hps
      rw [if_neg hp0] at hRm
      refine EvT.to false (fun m' => m' F = some (.list (pre.map Dc.b)) ∧ Ext R mu m' ∧ Row m' R D (en :: rest)) ?_ ?_
      · walk_at "W"
        refine ⟨rfl, by walk_at "len", fun B3 hB3 => ?_⟩
        have hF3 : upd m B3 (.list []) F = some (.list (pre.map Dc.b)) := by rw [upd_ne _ fun q => by rw [← q, hFm] at hB3; cases hB3]; exact hFm
        refine O_eq_list hF3 (upd_self _ _ _) (fit_list_shaped hpre (by decide)) (fit_list_shaped (k := 4) fit_nil (by decide)) ⟨_, rfl, ite_f (hlen0.trans (decide_eq_false hp0)) ?_⟩
        walk_at "W"
        refine ⟨rfl, by walk_at "len", fun B4 hB4 => ?_⟩
        have hB4' : upd m B3 (.list []) B4 = none := hB4
        have hF4 : upd (upd m B3 (.list [])) B4 (.list (([","] : List Str).map .str)) F = some (.list (pre.map Dc.b)) := by rw [upd_ne _ fun q => by rw [← q, hF3] at hB4'; cases hB4']; exact hF3
        walk_at "W"
        refine eat_ok X (es := [","]) ((hRm.new hB3).new hB4) (upd_self _ _ _) (fun z hz => by rw [List.mem_singleton.mp hz]; decide +kernel) (fun w l' hl hw => ?_) (fun _ => ?_)
        · exfalso; change en :: rest = w :: l' at hl; cases hl; exact he1.2.1 hw
        walk_at "W"; walk_at "Q"
        walk_at "W"
        exact ⟨rfl, hF4, (he.new hB3).new hB4, (hRm.new hB3).new hB4⟩
      · rintro m' ⟨hFm', he', hRm'⟩
        rw [List.append_nil] at hps
        refine ite_f rfl ?_
        walk_at "W"
        refine ⟨rfl, by walk_at "len", fun B5 hB5 => ?_⟩
        have hF5 : upd m' B5 (.list (([en] : List Str).map .str)) F = some (.list (pre.map Dc.b)) := by rw [upd_ne _ fun q => by rw [← q, hFm'] at hB5; cases hB5]; exact hFm'
        walk_at "W"
        refine eat_ok X (es := [en]) (hRm'.new hB5) (upd_self _ _ _) (fun z hz => by rw [List.mem_singleton.mp hz]; exact heo) (fun w l' hl hw m6 hO6 hR6 => ?_) (fun hn => absurd List.mem_cons_self hn)
        cases hl
        refine ⟨rfl, ?_⟩
        walk_at "W"
        refine C_tuple ((hO6 F hFR).trans hF5) (by rw [List.length_map, sizeLine_eq]; omega) ?_
        rw [hps] at h
        exact ⟨_, ((he'.new hB5).only hO6).ovr, h _ (only_ovr R mu _) (hR.ovr ((he'.new hB5).only hO6) hR6)⟩
    | cons c post =>
      have hco := hc.1 c (by rw [hps]; exact List.mem_append_right _ List.mem_cons_self)
      refine EvT.to true (fun m' => m' F = some (.list (pre.map Dc.b)) ∧ Ext R mu m' ∧ Row m' R D (c.ws ++ tailW post (en :: rest))) ?_ ?_
      · walk_at "W"
        refine ⟨rfl, by walk_at "len", fun B3 hB3 => ?_⟩
        have hF3 : upd m B3 (.list []) F = some (.list (pre.map Dc.b)) := by rw [upd_ne _ fun q => by rw [← q, hFm] at hB3; cases hB3]; exact hFm
        refine O_eq_list hF3 (upd_self _ _ _) (fit_list_shaped hpre (by decide)) (fit_list_shaped (k := 4) fit_nil (by decide)) ⟨_, rfl, ?_⟩
        by_cases hp0 : pre.length = 0
        · rw [if_pos hp0, dcsW_app] at hRm
          refine ite_t (hlen0.trans (decide_eq_true hp0)) ?_
          exact ⟨rfl, hF3, he.new hB3, hRm.new hB3⟩
        · rw [if_neg hp0] at hRm
          refine ite_f (hlen0.trans (decide_eq_false hp0)) ?_
          walk_at "W"
          refine ⟨rfl, by walk_at "len", fun B4 hB4 => ?_⟩
          have hB4' : upd m B3 (.list []) B4 = none := hB4
          have hF4 : upd (upd m B3 (.list [])) B4 (.list (([","] : List Str).map .str)) F = some (.list (pre.map Dc.b)) := by rw [upd_ne _ fun q => by rw [← q, hF3] at hB4'; cases hB4']; exact hF3
          walk_at "W"
          refine eat_ok X (es := [","]) ((hRm.new hB3).new hB4) (upd_self _ _ _) (fun z hz => by rw [List.mem_singleton.mp hz]; decide +kernel) (fun w l' hl hw m5 hO5 hR5 => ?_) (fun hn => absurd List.mem_cons_self hn)
          cases hl
          walk_at "W"; walk_at "Q"
          walk_at "W"
          refine ⟨rfl, (hO5 F hFR).trans hF4, ((he.new hB3).new hB4).only hO5, ?_⟩
          rw [← dcsW_app]; exact hR5
      · rintro m' ⟨hFm', he', hRm'⟩
        refine ite_t rfl ?_
        clear hRm hFm he
        walk_at "W"
        refine ⟨rfl, by walk_at "len", fun B6 hB6 => ?_⟩
        have hF6 : upd m' B6 (.list ((["disj"] : List Str).map .str)) F = some (.list (pre.map Dc.b)) := by rw [upd_ne _ fun q => by rw [← q, hFm'] at hB6; cases hB6]; exact hFm'
        walk_at "W"
        refine eat_disj X (b := c.disj) (l := ((nmT c.k).flatMap fun y => ([",", y] : List Str)) ++ ((":" : Str) :: (multW c.mult ++ (c.s.ws ++ tailW post (en :: rest))))) ((hRm'.new hB6).cast (by unfold Dc.ws; simp only [List.append_assoc, List.cons_append])) (upd_self _ _ _) fun m7 hO7 hR7 => ?_
        have hF7 := (hO7 F hFR).trans hF6
        have he7 := (he'.new hB6).only hO7
        walk_at "W"
        refine O_ne (shaped_str disj_ok) (by walk_at "sh") ?_
        rw [disj_ne]
        walk_at "W"
        have hk1 := hco.lo
        have hk3 := hco.hi
        refine read_names_ok X (n := n + 1) (x := "x") (ys := nmT c.k) hR7 (by show (":" : Str) ∉ _; decide +kernel) (by decide +kernel) (by decide) (nm_len _) fun m8 hO8 hR8 => ?_
        have hF8 := (hO8 F hFR).trans hF7
        have he8 := he7.only hO8
        walk_at "W"
        refine ⟨rfl, by walk_at "len", fun B9 hB9 => ?_⟩
        have hF9 : upd m8 B9 (.list (([":"] : List Str).map .str)) F = some (.list (pre.map Dc.b)) := by rw [upd_ne _ fun q => by rw [← q, hF8] at hB9; cases hB9]; exact hF8
        walk_at "W"
        refine eat_ok X (es := [":"]) (hR8.new hB9) (upd_self _ _ _) (fun z hz => by rw [List.mem_singleton.mp hz]; decide +kernel) (fun w l' hl hw m10 hO10 hR10 => ?_) (fun hn => absurd List.mem_cons_self hn)
        cases hl
        have hF10 := (hO10 F hFR).trans hF9
        have he10 := (he8.new hB9).only hO10
        refine ⟨rfl, ?_⟩
        walk_at "W"
        refine ⟨Ty_list hF10, ?_⟩
        walk_at "W"
        refine ⟨rfl, by walk_at "len", fun B11 hB11 => ?_⟩
        have hF11 : upd m10 B11 (.list (AM.map .str)) F = some (.list (pre.map Dc.b)) := by rw [upd_ne _ fun q => by rw [← q, hF10] at hB11; cases hB11]; exact hF10
        walk_at "W"
        refine eat_mult X (es := AM) hco.s (hms _ hco.mult) am_ok (fun x hx => not_mem_of hx (by decide +kernel)) (by decide +kernel) (hR10.new hB11) (upd_self _ _ _) fun m12 hO12 hR12 => ?_
        have hF12 := (hO12 F hFR).trans hF11
        have he12 := (he10.new hB11).only hO12
        walk_at "W"
        refine read_sum_ok X (n := n) hco.s hR12 (tail_not (by decide +kernel) he1.1) fun m13 hO13 hR13 => ?_
        have hF13 := (hO13 F hFR).trans hF12
        have he13 := he12.only hO13
        walk_at "W"
        refine ⟨rfl, by walk_at "len", ?_⟩
        walk_at "W"
        refine C_append hF13 (by rw [List.length_map, sizeLine_eq]; omega) ?_
        refine ⟨rfl, ?_⟩
        walk_at "W"
        refine ⟨post.length, ⟨[("found", .ref F), ("end", .dat (.str en)), ("begin", .dat (.str bg)), ("row", .ref R)], upd m13 F (.list (pre.map Dc.b ++ [c.b]))⟩, by rw [← hk]; exact Nat.lt_succ_self _, ⟨?_, fun a o e => ?_⟩, pre ++ [c], post, by rw [hps]; simp, rfl, rfl, ?_, he13.set hF1, ?_⟩
        · walk_at "sub"
        · rw [show c.b = .tuple [.bool c.disj, .tuple ((("x" : Str) :: nmT c.k).map .str), .str c.mult, c.s.b] by unfold Dc.b; rw [nm_take hk1 hk3]] at e
          exact e
        · show upd m13 F _ F = _
          rw [upd_self]; simp
        · rw [if_neg (by simp)]
          exact hR13.set hFR hFD
end
section
set_option maxRecDepth 100000
set_option maxHeartbeats 400000
/-- no declarations: the begin word is not there -/
theorem read_decls_none {C : Cx} (X : Cok C) {n : Nat} {mu : Mu} {R D : Addr} {bg en : Str} {l : List Str} {K : PV → Mu → Prop} (hbo : PyData.strOk bg = true) (hR : Row mu R D l) (hn : NotIn l [bg]) (h : K (.dat (.tuple [])) mu) :
    FnOk C (n + 4) "_law_read_decls" mu [.ref R, .dat (.str bg), .dat (.str en)] K := by
  refine enter X ["row", "begin", "end"] (by rfl) (by rfl) (by rfl) (by rfl) rfl (bind3 rfl (fun _ _ _ => by rfl)) (by decide) (by decide) rfl rfl rfl ?_
  intro L
  walk_at "W"
  refine ⟨rfl, by walk_at "len", fun F hF => ?_⟩
  have hR0 := hR.new (o := .list []) hF
  have hle := (Le.refl mu).new (o := .list []) hF
  show EvS _ _ _ _ ⟨_, upd mu F (.list [])⟩ _
  generalize upd mu F (.list []) = m0 at hR0 hle ⊢
  walk_at "W"
  refine ⟨rfl, by walk_at "len", fun B hB => ?_⟩
  walk_at "W"
  refine eat_ok X (es := [bg]) (hR0.new hB) (upd_self _ _ _) (fun z hz => by rw [List.mem_singleton.mp hz]; exact hbo) (fun w l' hl hw => ?_) (fun _ => ?_)
  · exfalso; rw [hl] at hn; exact hn hw
  walk_at "W"; walk_at "Q"
  refine ite_t rfl ?_
  walk_at "W"
  refine ⟨rfl, by walk_at "len", ?_⟩
  exact ret_le (hle.new hB) h
end
section
set_option maxRecDepth 100000
set_option maxHeartbeats 400000
/-- a word that may stand: eaten, or not there -/
theorem eat_opt {C : Cx} (X : Cok C) {n : Nat} {mu : Mu} {R D S : Addr} {v : Str} {l es : List Str} {K : PV → Mu → Prop} (hes : es.all PyData.strOk = true) (h0 : v = "" → NotIn l es) (h1 : v ≠ "" → v ∈ es)
    (hR : Row mu R D (multW v ++ l)) (hS : mu S = some (.list (es.map .str)))
    (h : ∀ mu', Only R mu mu' → Row mu' R D l → K (.dat (.str v)) mu') : FnOk C (n + 1) "_law_eat" mu [.ref R, .ref S] K := by
  have hes : ∀ x ∈ es, PyData.strOk x = true := fun x hx => List.all_eq_true.mp hes x hx
  by_cases hv : v = ""
  · subst hv
    refine eat_ok X hR hS hes (fun w l' hl hw => ?_) (fun _ => h mu (fun _ _ => rfl) hR)
    exfalso
    change l = w :: l' at hl
    have := h0 rfl
    rw [hl] at this
    exact this hw
  · have e : multW v = [v] := if_neg hv
    rw [e] at hR
    refine eat_ok X hR hS hes (fun w l' hl hw m2 hO2 hR2 => ?_) (fun hn => absurd (h1 hv) hn)
    change v :: l = w :: l' at hl
    cases hl
    exact h m2 hO2 hR2
end
section
set_option maxRecDepth 100000
set_option maxHeartbeats 400000
theorem Ev.to {C : Cx} {n : Nat} {env : Env} {t : Sem Value} {S : St} {Q : PV → Mu → Prop} (p0 : PV) (P : Mu → Prop) (h : Ev C n env t S fun p m => p = p0 ∧ P m) (k : ∀ m, P m → Q p0 m) : Ev C n env t S Q := h.mono fun p m ⟨x, y⟩ => x ▸ k m y
def absS (b : Bool) : Str := if b = true then "abstract" else ""
theorem abs_ne {b : Bool} : (!PyData.eqv (.str (absS b)) (.str "")) = b := by cases b <;> rfl
theorem abs_ok {b : Bool} : PyData.strOk (absS b) = true := by cases b <;> decide +kernel
def stT (k : Nat) : List Str := (["T"] : List Str).take (k - 1)
def abT (k : Nat) : List Str := (["B"] : List Str).take (k - 1)
def supW (parent : Str) (sup : Nat) : List Str := if parent = "" then (if sup = 0 then [] else (("in" : Str) :: ("A" : Str) :: (abT sup).flatMap fun y => (["+", y] : List Str))) else (["extends", parent] : List Str)
def sigTail (fields : List Dc) (facts : List Cl) (rest : List Str) : List Str := ("{" : Str) :: (dcsW fields ++ ("}" : Str) :: (if facts.length = 0 then rest else ("{" : Str) :: (clsW facts ++ ("}" : Str) :: rest)))
def sigW (k : Nat) (abs : Bool) (mult parent : Str) (sup : Nat) (fields : List Dc) (facts : List Cl) (rest : List Str) : List Str :=
  multW (absS abs) ++ (multW mult ++ (("sig" : Str) :: (("S" : Str) :: ((stT k).flatMap fun y => ([",", y] : List Str)) ++ (supW parent sup ++ sigTail fields facts rest))))
theorem st_take {k : Nat} (h1 : 1 ≤ k) (h2 : k ≤ 2) : SS.take k = ((("S" : Str) :: stT k).map .str) := by
  obtain h | h : k = 1 ∨ k = 2 := by omega
  all_goals subst h; rfl
theorem ab_take {k : Nat} (h1 : 1 ≤ k) (h2 : k ≤ 2) : AB.take k = ((("A" : Str) :: abT k).map .str) := by
  obtain h | h : k = 1 ∨ k = 2 := by omega
  all_goals subst h; rfl

theorem SigMs {m : Str} (h : m ∈ (["", "one", "lone", "some", "set"] : List Str)) : m ∈ (("" : Str) :: AM) := h
theorem read_sig_ok {C : Cx} (X : Cok C) {n : Nat} {mu : Mu} {R D : Addr} {k : Nat} {abs : Bool} {mult parent : Str} {sup : Nat} {fields : List Dc} {facts : List Cl} {K : PV → Mu → Prop} (hit : (It.sig k abs mult parent sup fields facts).Ok)
    (hR : Row mu R D (sigW k abs mult parent sup fields facts [])) (h : ∀ mu', Only R mu mu' → Row mu' R D [] → K (.dat (It.sig k abs mult parent sup fields facts).b) mu') : FnOk C (n + 5) "_law_read_sig" mu [.ref R] K := by
  obtain ⟨k1, k2, hm, hp, hf, hfa⟩ := hit
  refine enter X ["row"] (by rfl) (by rfl) (by rfl) (by rfl) rfl (bind1 rfl (fun _ => by rfl)) (by decide) (by decide) rfl rfl rfl ?_
  intro L
  walk_at "W"
  refine S_swap ["is_abstract", "mult"] (by rfl) ?_
  walk_at "W"
  refine ⟨rfl, by walk_at "len", fun B hB => ?_⟩
  walk_at "W"
  refine eat_opt X (v := absS abs) (es := ["abstract"]) (by decide +kernel) (fun q => ?_) (fun q => ?_) (hR.new hB) (upd_self _ _ _) fun m1 hO1 hR1 => ?_
  · unfold multW
    split
    · show ("sig" : Str) ∉ _; decide +kernel
    · exact not_mem_of hm (by decide +kernel)
  · cases abs
    · exact absurd rfl q
    · exact List.mem_cons_self
  have e1 := ((Ext.refl R mu).new hB).only hO1
  walk_at "W"
  refine O_ne (shaped_str abs_ok) (by walk_at "sh") ?_
  rw [abs_ne]
  walk_at "W"
  refine ⟨rfl, by walk_at "len", fun B2 hB2 => ?_⟩
  walk_at "W"
  refine eat_opt X (v := mult) (es := ["one", "lone", "some"]) (by decide +kernel) (fun q => ?_) (fun q => ?_) (hR1.new hB2) (upd_self _ _ _) fun m2 hO2 hR2 => ?_
  · show ("sig" : Str) ∉ _; decide +kernel
  · rcases List.mem_cons.mp hm with hm | hm
    · exact absurd hm q
    · exact hm
  have e2 := (e1.new hB2).only hO2
  walk_at "W"
  refine ⟨rfl, by walk_at "len", ?_⟩
  refine A_bind (A_bind (A_nil ?_))
  walk_at "W"
  refine ⟨rfl, by walk_at "len", fun B3 hB3 => ?_⟩
  walk_at "W"
  refine eat_ok X (es := ["sig"]) (hR2.new hB3) (upd_self _ _ _) (fun z hz => by rw [List.mem_singleton.mp hz]; decide +kernel) (fun w l' hl hw m3 hO3 hR3 => ?_) (fun hn => absurd List.mem_cons_self hn)
  cases hl
  have e3 := (e2.new hB3).only hO3
  refine ⟨rfl, ?_⟩
  walk_at "W"
  refine read_names_ok X (n := n + 2) (x := "S") (ys := stT k) hR3 ?_ (by decide +kernel) (by decide) ?_ fun m4 hO4 hR4 => ?_
  · unfold supW
    split
    · split
      · show ("{" : Str) ∉ _; decide +kernel
      · show ("in" : Str) ∉ _; decide +kernel
    · show ("extends" : Str) ∉ _; decide +kernel
  · unfold stT; rw [List.length_take]; exact Nat.le_trans (Nat.min_le_right _ _) (by decide)
  have e4 := e3.only hO4
  rw [← st_take k1 k2]
  refine S_cons ?_
  refine S_assign ?_
  refine Ev.to (.dat (.str parent)) (fun m => Ext R mu m ∧ Row m R D ((if parent = "" then supW "" sup else []) ++ sigTail fields facts [])) ?_ ?_
  · walk_at "W"
    refine ⟨rfl, by walk_at "len", fun B5 hB5 => ?_⟩
    walk_at "W"
    rcases hp with ⟨rfl, hs⟩ | ⟨rfl, rfl⟩
    · refine eat_ok X (es := ["extends"]) (hR4.new hB5) (upd_self _ _ _) (fun z hz => by rw [List.mem_singleton.mp hz]; decide +kernel) (fun w l' hl hw => ?_) (fun _ => ?_)
      · exfalso
        revert hl
        unfold supW
        split
        · split
          · intro hl
            change ("{" : Str) :: _ = w :: l' at hl
            cases hl
            revert hw; decide +kernel
          · intro hl
            change ("in" : Str) :: _ = w :: l' at hl
            cases hl
            revert hw; decide +kernel
        · rename_i q; exact absurd rfl q
      · walk_at "W"; walk_at "Q"
        walk_at "W"
        exact ⟨rfl, e4.new hB5, (hR4.new hB5).cast (by rw [if_pos rfl])⟩
    · refine eat_ok X (es := ["extends"]) (hR4.new hB5) (upd_self _ _ _) (fun z hz => by rw [List.mem_singleton.mp hz]; decide +kernel) (fun w l' hl hw m6 hO6 hR6 => ?_) (fun hn => absurd List.mem_cons_self hn)
      change ("extends" : Str) :: ("A" : Str) :: sigTail fields facts [] = w :: l' at hl
      cases hl
      walk_at "W"; walk_at "Q"
      walk_at "W"
      refine take_ok X hR6 fun m7 hO7 hR7 => ?_
      exact ⟨rfl, ((e4.new hB5).only hO6).only hO7, hR7.cast (by rw [if_neg (by decide)]; rfl)⟩
  rintro m6 ⟨e6, hR6⟩
  refine S_cons ?_
  refine S_assign ?_
  refine Ev.to (.dat (.tuple (AB.take sup))) (fun m => Ext R mu m ∧ Row m R D (sigTail fields facts [])) ?_ ?_
  · have hcase : (sup = 0 ∧ Row m6 R D (sigTail fields facts [])) ∨ (1 ≤ sup ∧ sup ≤ 2 ∧ Row m6 R D (("in" : Str) :: ((("A" : Str) :: (abT sup).flatMap fun y => (["+", y] : List Str)) ++ sigTail fields facts []))) := by
      rcases hp with ⟨rfl, hs⟩ | ⟨rfl, rfl⟩
      · rw [if_pos rfl] at hR6
        unfold supW at hR6
        rw [if_pos rfl] at hR6
        by_cases hz : sup = 0
        · rw [if_pos hz] at hR6; exact .inl ⟨hz, hR6⟩
        · rw [if_neg hz] at hR6; exact .inr ⟨by omega, hs, hR6⟩
      · rw [if_neg (by decide)] at hR6
        exact .inl ⟨rfl, hR6⟩
    walk_at "W"
    refine ⟨rfl, by walk_at "len", fun B5 hB5 => ?_⟩
    walk_at "W"
    rcases hcase with ⟨rfl, hR7⟩ | ⟨s1, s2, hR7⟩
    · refine eat_ok X (es := ["in"]) (hR7.new hB5) (upd_self _ _ _) (fun z hz => by rw [List.mem_singleton.mp hz]; decide +kernel) (fun w l' hl hw => ?_) (fun _ => ?_)
      · exfalso
        change ("{" : Str) :: _ = w :: l' at hl
        cases hl
        revert hw; decide +kernel
      walk_at "W"; walk_at "Q"
      walk_at "W"
      refine ⟨rfl, by walk_at "len", ?_⟩
      exact ⟨rfl, e6.new hB5, hR7.new hB5⟩
    · refine eat_ok X (es := ["in"]) (hR7.new hB5) (upd_self _ _ _) (fun z hz => by rw [List.mem_singleton.mp hz]; decide +kernel) (fun w l' hl hw m7 hO7 hR8 => ?_) (fun hn => absurd List.mem_cons_self hn)
      cases hl
      walk_at "W"; walk_at "Q"
      walk_at "W"
      refine read_names_ok X (n := n + 2) (x := "A") (ys := abT sup) hR8 (by show ("{" : Str) ∉ _; decide +kernel) (by decide +kernel) (by decide) (by unfold abT; rw [List.length_take]; exact Nat.le_trans (Nat.min_le_right _ _) (by decide)) fun m8 hO8 hR9 => ?_
      rw [← ab_take s1 s2]
      exact ⟨rfl, ((e6.new hB5).only hO7).only hO8, hR9⟩
  rintro m7 ⟨e7, hR7⟩
  clear hp
  walk_at "W"
  refine read_decls_ok X (n := n) (ms := ["", "one", "lone", "some", "set"]) hf (by unfold Ms; decide +kernel) (fun m hm => SigMs hm) (.inl ⟨rfl, rfl⟩) hR7 fun m8 hO8 hR8 => ?_
  have e8 := e7.only hO8
  obtain ⟨p0, q1, q2, q3⟩ := hR8.ex
  have hp0 : p0.length ≤ 2000 := by rw [List.length_append] at q3; omega
  walk_at "W"
  by_cases hz : facts.length = 0
  · rw [if_pos hz] at hR8 q2
    refine B_list (d := .none) q2 (by omega) (by omega) (get_mid _ _ _) ?_
    walk_at "W"
    walk_at "Q"
    walk_at "W"
    refine ⟨rfl, by walk_at "len", ?_⟩
    walk_at "W"
    refine ⟨rfl, by walk_at "len", ?_⟩
    rw [List.eq_nil_of_length_eq_zero hz] at h
    exact ⟨_, e8.ovr, h _ (only_ovr R mu _) (hR.ovr e8 hR8)⟩
  · rw [if_neg hz] at hR8 q2
    refine B_list (d := .str "{") q2 (by omega) (by omega) (get_mid _ _ _) ?_
    walk_at "W"
    walk_at "Q"
    clear q1 q2
    walk_at "W"
    refine read_claims_ok X (n := n) hfa hR8 fun m9 hO9 hR9 => ?_
    walk_at "W"
    refine ⟨rfl, by walk_at "len", ?_⟩
    exact ⟨_, (e8.only hO9).ovr, h _ (only_ovr R mu _) (hR.ovr (e8.only hO9) hR9)⟩
end
section
set_option maxRecDepth 100000
set_option maxHeartbeats 400000
theorem EvX.mid {C : Cx} {n : Nat} {env : Env} {t : Sem Flow} {S : St} {Q : Fl → St → Prop} (loc1 : List (Str × PV)) (P : Mu → Prop) (h : EvX C n env t S fun fl S2 => fl = .next ∧ ∃ m, P m ∧ Sub ⟨loc1, m⟩ S2) (hQ : ∀ m, P m → Q .next ⟨loc1, m⟩) : EvX C n env t S Q := fun A s a r =>
  wpAny_mono (h A s a r) (fun f s' ⟨fl, S2, x1, x2, x3, x4, m, x5, x6⟩ => ⟨.next, ⟨loc1, m⟩, by rw [x4] at x1; exact x1, x2.less x6, x3.less x6.mu, hQ m x5⟩) fun _ _ x => x

def Nu.ws (u : Nu) : List Str := (if u.ex = true then (["exactly"] : List Str) else []) ++ ([decS u.num, u.sig] : List Str)
def numsW : List Nu → List Str
  | [] => []
  | [c] => c.ws
  | c :: d :: r => c.ws ++ ((",": Str) :: numsW (d :: r))
def ntailW (cs : List Nu) (rest : List Str) : List Str := match cs with
  | [] => rest
  | d :: r => (",": Str) :: (numsW (d :: r) ++ rest)
theorem numsW_app (c : Nu) (cs : List Nu) (rest : List Str) : numsW (c :: cs) ++ rest = c.ws ++ ntailW cs rest := by
  cases cs with
  | nil => rfl
  | cons d r => simp [ntailW, numsW]
def Sc.ws (s : Sc) (rest : List Str) : List Str :=
  if s.dflt < 0 then (if s.nums.length = 0 then rest else ("for" : Str) :: (numsW s.nums ++ rest)) else ("for" : Str) :: decS s.dflt :: (if s.nums.length = 0 then rest else ("but" : Str) :: (numsW s.nums ++ rest))
theorem dec_fact {P : Str → Prop} (h : ∀ k : Fin 12, P (decS (k.val : Int))) {i : Int} (h0 : 0 ≤ i) (h1 : i < 12) : P (decS i) := by
  have := h ⟨i.toNat, by omega⟩
  rwa [show ((i.toNat : Nat) : Int) = i by omega] at this
theorem bex_str {w : Str} : ([.str "but", .str "expect", .none] : List PyData).any (fun y => PyData.eqv y (.str w)) = decide (w ∈ (["but", "expect"] : List Str)) := by
  rw [← any_str]
  rw [List.any_cons, List.any_cons, List.any_cons, List.any_nil]
  show _ = ((PyData.eqv (.str "but") (.str w)) || ((PyData.eqv (.str "expect") (.str w)) || false))
  rw [show PyData.eqv .none (.str w) = false from rfl, Bool.or_false]
theorem get_mid2 (pre : List PyData) (a b : PyData) (r : List PyData) : (pre ++ (a :: b :: r))[(((pre.length : Nat) : Int) + 1).toNat]? = some b := by
  rw [show (((pre.length : Nat) : Int) + 1).toNat = pre.length + 1 by omega]
  simp
def exS (b : Bool) : Str := if b = true then "exactly" else ""
theorem ex_ne {b : Bool} : (!PyData.eqv (.str (exS b)) (.str "")) = b := by cases b <;> rfl
theorem ex_ok {b : Bool} : PyData.strOk (exS b) = true := by cases b <;> decide +kernel
theorem rest_not {rest es : List Str} (h : rest = [] ∨ ∃ r, rest = ("expect" : Str) :: r) (he : ("expect" : Str) ∉ es) : NotIn rest es := by
  rcases h with rfl | ⟨r, rfl⟩
  · trivial
  · exact he
theorem Nu.ws_ex (u : Nu) (l : List Str) : u.ws ++ l = multW (exS u.ex) ++ (decS u.num :: u.sig :: l) := by
  unfold Nu.ws exS
  cases u.ex
  · rfl
  · rfl

theorem nu_fit {u : Nu} (h : u.Ok) : Fit 2 u.d := Fit.tup (fit_cons Fit.bool (fit_cons Fit.int (fit_cons (fit_mem h.sig (by decide +kernel)) fit_nil)))

theorem read_scope_ok {C : Cx} (X : Cok C) {n : Nat} {mu : Mu} {R D : Addr} {s : Sc} {rest : List Str} {K : PV → Mu → Prop} (hs : s.Ok) (hrest : rest = [] ∨ ∃ r, rest = ("expect" : Str) :: r)
    (hR : Row mu R D (s.ws rest)) (h : ∀ mu', Only R mu mu' → Row mu' R D rest → K (.dat s.d) mu') : FnOk C (n + 2) "_law_read_scope" mu [.ref R] K := by
  obtain ⟨lo, hi, hn, hl⟩ := hs
  obtain ⟨df, nums⟩ := s
  have lo : -1 ≤ df := lo
  have hi : df ≤ 3 := hi
  have hn : ∀ u ∈ nums, u.Ok := hn
  have hl : nums.length ≤ 2 := hl
  refine enter X ["row"] (by rfl) (by rfl) (by rfl) (by rfl) rfl (bind1 rfl (fun _ => by rfl)) (by decide) (by decide) rfl rfl rfl ?_
  intro L
  walk_at "W"
  refine S_swap ["default", "numbers"] (by rfl) ?_
  walk_at "W"
  refine ⟨_, rfl, ?_⟩
  walk_at "W"
  refine ⟨rfl, by walk_at "len", fun F hF => ?_⟩
  walk_at "W"
  refine ⟨rfl, by walk_at "len", ?_⟩
  refine A_bind (A_bind (A_nil ?_))
  have hR0 := hR.new (o := .list []) hF
  have hFR := hR.neR hF
  have hFD := hR.neD hF
  have e0 : Ext R mu (upd mu F (.list [])) := (Ext.refl R mu).new hF
  have hF0 : upd mu F (.list []) F = some (.list []) := upd_self _ _ _
  have hF1 : mu F = none := hF
  show EvS _ _ _ _ ⟨_, upd mu F (.list [])⟩ _
  generalize upd mu F (.list []) = m0 at hR0 e0 hF0 ⊢
  walk_at "W"
  refine ⟨rfl, by walk_at "len", fun B hB => ?_⟩
  walk_at "W"
  by_cases hz : df < 0 ∧ nums.length = 0
  · have e : Sc.ws ⟨df, nums⟩ rest = rest := by unfold Sc.ws; rw [if_pos hz.1, if_pos hz.2]
    rw [e] at hR0
    refine eat_ok X (es := ["for"]) (hR0.new hB) (upd_self _ _ _) (fun z hz => by rw [List.mem_singleton.mp hz]; decide +kernel) (fun w l' hl hw => ?_) (fun _ => ?_)
    · exfalso
      have := rest_not hrest (es := ["for"]) (by decide +kernel)
      rw [hl] at this
      exact this hw
    walk_at "W"; walk_at "Q"
    walk_at "W"
    refine ⟨rfl, by walk_at "len", ?_⟩
    walk_at "W"
    refine ⟨rfl, by walk_at "len", ?_⟩
    have hd : Sc.d ⟨df, nums⟩ = .tuple [.int (-1), .tuple []] := by
      unfold Sc.d
      rw [show df = -1 by omega, List.eq_nil_of_length_eq_zero hz.2]; rfl
    rw [hd] at h
    exact ⟨_, (e0.new hB).ovr, h _ (only_ovr R mu _) (hR.ovr (e0.new hB) (hR0.new hB))⟩
  · obtain ⟨tl, htl⟩ : ∃ tl, Sc.ws ⟨df, nums⟩ rest = ("for" : Str) :: tl := by
      unfold Sc.ws
      split
      · rw [if_neg fun q => hz ⟨by assumption, q⟩]; exact ⟨_, rfl⟩
      · exact ⟨_, rfl⟩
    rw [htl] at hR0
    refine eat_ok X (es := ["for"]) (hR0.new hB) (upd_self _ _ _) (fun z hz => by rw [List.mem_singleton.mp hz]; decide +kernel) (fun w l' hl hw m1 hO1 hR1 => ?_) (fun hn => absurd List.mem_cons_self hn)
    cases hl
    have e1 := (e0.new hB).only hO1
    have hFm1 : m1 F = some (.list []) := (hO1 F hFR).trans (by rw [upd_ne _ fun q => by rw [← q, hF0] at hB; cases hB]; exact hF0)
    walk_at "W"; walk_at "Q"
    refine S_nil ?_
    refine S_cons ?_
    refine EvX.mid [("numbers", .ref F), ("default", .dat (.int df)), ("row", .ref R)] (fun m => Ext R mu m ∧ m F = some (.list []) ∧ Row m R D (if df < 0 then numsW nums ++ rest else if nums.length = 0 then rest else ("but" : Str) :: (numsW nums ++ rest))) ?_ ?_
    · obtain ⟨p0, q1, q2, q3⟩ := hR1.ex
      have hp0 : p0.length ≤ 2000 := by rw [List.length_append] at q3; omega
      walk_at "W"
      by_cases hd : df < 0
      · have hne : ¬ nums.length = 0 := fun q => hz ⟨hd, q⟩
        have htl' : tl = numsW nums ++ rest := by
          unfold Sc.ws at htl
          rw [if_pos hd, if_neg hne] at htl
          exact ((List.cons.inj htl).2).symm
        obtain ⟨u, us, rfl⟩ : ∃ u us, nums = u :: us := by
          cases nums with
          | nil => exact absurd rfl hne
          | cons u us => exact ⟨u, us, rfl⟩
        have huo := hn u List.mem_cons_self
        obtain ⟨a, b, r, hab, hb⟩ : ∃ a b r, tl = a :: b :: r ∧ b ∉ (["but", "expect"] : List Str) := by
          rw [htl', numsW_app]
          unfold Nu.ws
          cases u.ex
          · exact ⟨_, _, _, rfl, not_mem_of huo.sig (by decide +kernel)⟩
          · exact ⟨_, _, _, rfl, dec_fact (P := fun x => x ∉ (["but", "expect"] : List Str)) (by decide +kernel) huo.lo huo.hi⟩
        have hbo : PyData.strOk b = true := hR1.ok b (by rw [hab]; exact List.mem_cons_of_mem _ List.mem_cons_self)
        have q2' := q2
        rw [hab] at q2'
        refine B_list (d := .str b) q2' (by omega) (by omega) (get_mid2 _ _ _ _) ?_
        walk_at "W"
        refine ⟨rfl, by walk_at "len", ?_⟩
        refine O_in_tup (by walk_at "can") (by walk_at "sh") ⟨_, rfl, ite_f ?_ ?_⟩
        · rw [show (List.map PV.toD [PV.dat (.str "but"), PV.dat (.str "expect"), PV.dat .none]) = [.str "but", .str "expect", .none] from rfl, bex_str, decide_eq_false hb]
        walk_at "W"
        refine ⟨rfl, m1, ⟨e1, hFm1, ?_⟩, ⟨?_, fun _ _ e => e⟩⟩
        · rw [if_pos hd, ← htl']; exact hR1
        · rw [show df = -1 by omega]; walk_at "sub"
      · have htl' : tl = decS df :: (if nums.length = 0 then rest else ("but" : Str) :: (numsW nums ++ rest)) := by
          unfold Sc.ws at htl
          rw [if_neg hd] at htl
          exact ((List.cons.inj htl).2).symm
        subst htl'
        have hgo : ∀ d, (p0 ++ rowL (decS df :: (if nums.length = 0 then rest else ("but" : Str) :: (numsW nums ++ rest))))[(((p0.length : Nat) : Int) + 1).toNat]? = some d → SeqAt.shaped d = true → (([.str "but", .str "expect", .none] : List PyData).any fun y => PyData.eqv y d) = true →
            ∃ d, (p0 ++ rowL (decS df :: (if nums.length = 0 then rest else ("but" : Str) :: (numsW nums ++ rest))))[(((p0.length : Nat) : Int) + 1).toNat]? = some d ∧ SeqAt.shaped d = true ∧ (([.str "but", .str "expect", .none] : List PyData).any fun y => PyData.eqv y d) = true := fun d h1 h2 h3 => ⟨d, h1, h2, h3⟩
        obtain ⟨d, hd1, hd2, hd3⟩ : ∃ d, (p0 ++ rowL (decS df :: (if nums.length = 0 then rest else ("but" : Str) :: (numsW nums ++ rest))))[(((p0.length : Nat) : Int) + 1).toNat]? = some d ∧ SeqAt.shaped d = true ∧ (([.str "but", .str "expect", .none] : List PyData).any fun y => PyData.eqv y d) = true := by
          by_cases hnz : nums.length = 0
          · rw [if_pos hnz]
            rcases hrest with rfl | ⟨r, rfl⟩
            · exact ⟨.none, get_mid2 _ _ _ _, shaped_none, by rfl⟩
            · exact ⟨.str "expect", get_mid2 _ _ _ _, shaped_str (by decide +kernel), by rfl⟩
          · rw [if_neg hnz]
            exact ⟨.str "but", get_mid2 _ _ _ _, shaped_str (by decide +kernel), by rfl⟩
        clear hgo
        refine B_list (d := d) q2 (by omega) (by omega) hd1 ?_
        walk_at "W"
        refine ⟨rfl, by walk_at "len", ?_⟩
        refine O_in_tup (by walk_at "can") hd2 ⟨_, rfl, ite_t hd3 ?_⟩
        clear q1 q2 hd1
        walk_at "W"
        refine take_ok X hR1 fun m2 hO2 hR2 => ?_
        walk_at "W"
        refine C_int_str (by omega) (by omega) ?_
        walk_at "W"
        refine ⟨rfl, m2, ⟨e1.only hO2, (hO2 F hFR).trans hFm1, ?_⟩, ⟨?_, fun _ _ e => e⟩⟩
        · rw [if_neg hd]; exact hR2
        · walk_at "sub"
    rintro m2 ⟨e2, hF2, hR2⟩
    clear hR1 hFm1 hR0
    refine S_cons ?_
    refine EvX.mid [("numbers", .ref F), ("default", .dat (.int df)), ("row", .ref R)] (fun m => Ext R mu m ∧ m F = some (.list (nums.map Nu.d)) ∧ Row m R D rest) ?_ ?_
    · refine S_if ?_
      refine EvT.to (!decide (nums.length = 0)) (fun m => Ext R mu m ∧ m F = some (.list []) ∧ Row m R D (numsW nums ++ rest)) ?_ ?_
      · walk_at "W"
        refine ⟨_, rfl, ?_⟩
        by_cases hd : df < 0
        · have hne : ¬ nums.length = 0 := fun q => hz ⟨hd, q⟩
          rw [if_pos hd] at hR2
          refine ite_t (decide_eq_true hd) ?_
          exact ⟨by rw [decide_eq_false hne]; rfl, e2, hF2, hR2⟩
        · rw [if_neg hd] at hR2
          refine ite_f (decide_eq_false hd) ?_
          walk_at "W"
          refine ⟨rfl, by walk_at "len", fun B3 hB3 => ?_⟩
          have hF3 : upd m2 B3 (.list (([("but" : Str)] : List Str).map .str)) F = some (.list []) := by rw [upd_ne _ fun q => by rw [← q, hF2] at hB3; cases hB3]; exact hF2
          walk_at "W"
          by_cases hnz : nums.length = 0
          · rw [if_pos hnz] at hR2
            refine eat_ok X (es := ["but"]) (hR2.new hB3) (upd_self _ _ _) (fun z hz => by rw [List.mem_singleton.mp hz]; decide +kernel) (fun w l' hl hw => ?_) (fun _ => ?_)
            · exfalso
              have := rest_not hrest (es := ["but"]) (by decide +kernel)
              rw [hl] at this
              exact this hw
            walk_at "W"; walk_at "Q"
            walk_at "W"
            refine ⟨by rw [decide_eq_true hnz]; rfl, e2.new hB3, hF3, ?_⟩
            rw [List.eq_nil_of_length_eq_zero hnz]
            exact hR2.new hB3
          · rw [if_neg hnz] at hR2
            refine eat_ok X (es := ["but"]) (hR2.new hB3) (upd_self _ _ _) (fun z hz => by rw [List.mem_singleton.mp hz]; decide +kernel) (fun w l' hl hw m4 hO4 hR4 => ?_) (fun hn => absurd List.mem_cons_self hn)
            cases hl
            walk_at "W"; walk_at "Q"
            refine ⟨by rw [decide_eq_false hnz]; rfl, (e2.new hB3).only hO4, (hO4 F hFR).trans hF3, hR4⟩
      · rintro m5 ⟨e5, hF5, hR5⟩
        clear hR2 hF2 e2
        by_cases hnz : nums.length = 0
        · refine ite_f (by rw [decide_eq_true hnz]; rfl) ?_
          refine S_nil ?_
          rw [List.eq_nil_of_length_eq_zero hnz] at hR5 ⊢
          exact ⟨rfl, m5, ⟨e5, hF5, hR5⟩, ⟨fun _ _ e => e, fun _ _ e => e⟩⟩
        · refine ite_t (by rw [decide_eq_false hnz]; rfl) ?_
          walk_at "W"
          refine S_while (fun k S' => ∃ pre post, nums = pre ++ post ∧ post.length = k ∧ S'.loc = ([("numbers", .ref F), ("default", .dat (.int df)), ("row", .ref R)] : List (Str × PV)) ∧ S'.mu F = some (.list (pre.map Nu.d)) ∧ Ext R mu S'.mu ∧ Row S'.mu R D (if pre.length = 0 then numsW post ++ rest else ntailW post rest)) nums.length
            ⟨[], nums, rfl, rfl, rfl, hF5, e5, hR5⟩ ?_
          clear hR5 hF5 e5
          rintro k ⟨loc, m⟩ ⟨pre, post, hps, hk, rfl, hFm, he, hRm⟩
          have hFm : m F = some (.list (pre.map Nu.d)) := hFm
          have he : Ext R mu m := he
          have hRm : Row m R D (if pre.length = 0 then numsW post ++ rest else ntailW post rest) := hRm
          have hpl : pre.length ≤ 2 := by rw [hps, List.length_append] at hl; omega
          have hpre : ∀ x ∈ pre.map Nu.d, Fit 4 x := fun x hx => by
            obtain ⟨u, hu, rfl⟩ := List.mem_map.mp hx
            exact (nu_fit (hn u (by rw [hps]; exact List.mem_append_left _ hu))).le (by decide)
          have hlen0 : PyData.eqv (.list (pre.map Nu.d)) (.list []) = decide (pre.length = 0) := by rw [eqv_list_nil, List.length_map]
          cases post with
          | nil =>
            have hp0 : ¬ pre.length = 0 := fun q => hnz (by rw [hps, List.eq_nil_of_length_eq_zero q]; rfl)
            rw [if_neg hp0] at hRm
            refine EvT.to false (fun m' => m' F = some (.list (pre.map Nu.d)) ∧ Ext R mu m' ∧ Row m' R D rest) ?_ ?_
            · walk_at "W"
              refine ⟨rfl, by walk_at "len", fun B3 hB3 => ?_⟩
              have hF3 : upd m B3 (.list []) F = some (.list (pre.map Nu.d)) := by rw [upd_ne _ fun q => by rw [← q, hFm] at hB3; cases hB3]; exact hFm
              refine O_eq_list hF3 (upd_self _ _ _) (fit_list_shaped hpre (by decide)) (fit_list_shaped (k := 4) fit_nil (by decide)) ⟨_, rfl, ite_f (hlen0.trans (decide_eq_false hp0)) ?_⟩
              walk_at "W"
              refine ⟨rfl, by walk_at "len", fun B4 hB4 => ?_⟩
              have hB4' : upd m B3 (.list []) B4 = none := hB4
              have hF4 : upd (upd m B3 (.list [])) B4 (.list (([","] : List Str).map .str)) F = some (.list (pre.map Nu.d)) := by rw [upd_ne _ fun q => by rw [← q, hF3] at hB4'; cases hB4']; exact hF3
              walk_at "W"
              refine eat_ok X (es := [","]) ((hRm.new hB3).new hB4) (upd_self _ _ _) (fun z hz => by rw [List.mem_singleton.mp hz]; decide +kernel) (fun w l' hl hw => ?_) (fun _ => ?_)
              · exfalso
                have := rest_not hrest (es := [","]) (by decide +kernel)
                change rest = w :: l' at hl
                rw [hl] at this
                exact this hw
              walk_at "W"; walk_at "Q"
              walk_at "W"
              exact ⟨rfl, hF4, (he.new hB3).new hB4, (hRm.new hB3).new hB4⟩
            · rintro m' ⟨hFm', he', hRm'⟩
              rw [List.append_nil] at hps
              refine ite_f rfl ?_
              refine S_nil ?_
              rw [hps]
              exact ⟨rfl, m', ⟨he', hFm', hRm'⟩, ⟨fun _ _ e => e, fun _ _ e => e⟩⟩
          | cons u post =>
            have huo := hn u (by rw [hps]; exact List.mem_append_right _ List.mem_cons_self)
            refine EvT.to true (fun m' => m' F = some (.list (pre.map Nu.d)) ∧ Ext R mu m' ∧ Row m' R D (u.ws ++ ntailW post rest)) ?_ ?_
            · walk_at "W"
              refine ⟨rfl, by walk_at "len", fun B3 hB3 => ?_⟩
              have hF3 : upd m B3 (.list []) F = some (.list (pre.map Nu.d)) := by rw [upd_ne _ fun q => by rw [← q, hFm] at hB3; cases hB3]; exact hFm
              refine O_eq_list hF3 (upd_self _ _ _) (fit_list_shaped hpre (by decide)) (fit_list_shaped (k := 4) fit_nil (by decide)) ⟨_, rfl, ?_⟩
              by_cases hp0 : pre.length = 0
              · rw [if_pos hp0, numsW_app] at hRm
                refine ite_t (hlen0.trans (decide_eq_true hp0)) ?_
                exact ⟨rfl, hF3, he.new hB3, hRm.new hB3⟩
              · rw [if_neg hp0] at hRm
                refine ite_f (hlen0.trans (decide_eq_false hp0)) ?_
                walk_at "W"
                refine ⟨rfl, by walk_at "len", fun B4 hB4 => ?_⟩
                have hB4' : upd m B3 (.list []) B4 = none := hB4
                have hF4 : upd (upd m B3 (.list [])) B4 (.list (([","] : List Str).map .str)) F = some (.list (pre.map Nu.d)) := by rw [upd_ne _ fun q => by rw [← q, hF3] at hB4'; cases hB4']; exact hF3
                walk_at "W"
                refine eat_ok X (es := [","]) ((hRm.new hB3).new hB4) (upd_self _ _ _) (fun z hz => by rw [List.mem_singleton.mp hz]; decide +kernel) (fun w l' hl hw m6 hO6 hR6 => ?_) (fun hn => absurd List.mem_cons_self hn)
                cases hl
                walk_at "W"; walk_at "Q"
                walk_at "W"
                refine ⟨rfl, (hO6 F hFR).trans hF4, ((he.new hB3).new hB4).only hO6, ?_⟩
                rw [← numsW_app]; exact hR6
            · rintro m' ⟨hFm', he', hRm'⟩
              refine ite_t rfl ?_
              clear hRm hFm he
              walk_at "W"
              refine ⟨rfl, by walk_at "len", fun B6 hB6 => ?_⟩
              have hF6 : upd m' B6 (.list ((["exactly"] : List Str).map .str)) F = some (.list (pre.map Nu.d)) := by rw [upd_ne _ fun q => by rw [← q, hFm'] at hB6; cases hB6]; exact hFm'
              walk_at "W"
              refine eat_opt X (v := exS u.ex) (es := ["exactly"]) (l := decS u.num :: u.sig :: ntailW post rest) (by decide +kernel) (fun _ => ?_) (fun q => ?_) ((hRm'.new hB6).cast (Nu.ws_ex u _)) (upd_self _ _ _) fun m7 hO7 hR7 => ?_
              · exact dec_fact (P := fun x => x ∉ (["exactly"] : List Str)) (by decide +kernel) huo.lo huo.hi
              · revert q
                cases u.ex
                · exact fun q => absurd rfl q
                · exact fun _ => List.mem_cons_self
              have hF7 := (hO7 F hFR).trans hF6
              have he7 := (he'.new hB6).only hO7
              walk_at "W"
              refine O_ne (shaped_str ex_ok) (by walk_at "sh") ?_
              rw [ex_ne]
              walk_at "W"
              refine ⟨Ty_list hF7, ?_⟩
              walk_at "W"
              refine take_ok X hR7 fun m8 hO8 hR8 => ?_
              have hF8 := (hO8 F hFR).trans hF7
              have he8 := he7.only hO8
              have hlo := huo.lo
              have hhi := huo.hi
              walk_at "W"
              refine C_int_str hlo (by omega) ?_
              walk_at "W"
              refine take_ok X hR8 fun m9 hO9 hR9 => ?_
              have hF9 := (hO9 F hFR).trans hF8
              have he9 := he8.only hO9
              walk_at "W"
              refine ⟨rfl, by walk_at "len", ?_⟩
              walk_at "W"
              refine C_append hF9 (by rw [List.length_map, sizeLine_eq]; omega) ?_
              refine ⟨rfl, ?_⟩
              walk_at "W"
              refine ⟨post.length, ⟨[("numbers", .ref F), ("default", .dat (.int df)), ("row", .ref R)], upd m9 F (.list (pre.map Nu.d ++ [u.d]))⟩, by rw [← hk]; exact Nat.lt_succ_self _, ⟨?_, fun a o e => e⟩, pre ++ [u], post, by rw [hps]; simp, rfl, rfl, ?_, he9.set hF1, ?_⟩
              · walk_at "sub"
              · show upd m9 F _ F = _
                rw [upd_self]; simp
              · rw [if_neg (by simp)]
                exact hR9.set hFR hFD
    rintro m3 ⟨e3, hF3, hR3⟩
    clear hR2 hF2
    walk_at "W"
    refine C_tuple hF3 (by rw [List.length_map, sizeLine_eq]; omega) ?_
    walk_at "W"
    refine ⟨rfl, by walk_at "len", ?_⟩
    exact ⟨_, e3.ovr, h _ (only_ovr R mu _) (hR.ovr e3 hR3)⟩
end
section
set_option maxRecDepth 100000
def paramsW (ps : List Dc) (rest : List Str) : List Str := if ps.length = 0 then rest else ("[" : Str) :: (dcsW ps ++ ("]" : Str) :: rest)
def whatW (name : Str) (nodes : Option (List Cl)) (tail : List Str) : List Str := match nodes with
  | none => name :: tail
  | some cs => ("{" : Str) :: (clsW cs ++ ("}" : Str) :: tail)
def exW (ex : Int) : List Str := if ex < 0 then [] else (["expect", decS ex] : List Str)
def argsW (k : Nat) (rest : List Str) : List Str := if k = 0 then rest else ("[" : Str) :: ((("A" : Str) :: (abT k).flatMap fun y => ([",", y] : List Str)) ++ ("]" : Str) :: rest)
def asW (as : Str) : List Str := if as = "" then [] else (["as", as] : List Str)
def It.ws : It → List Str
  | .opn k as => ("open" : Str) :: ("util/ordering" : Str) :: argsW k (asW as)
  | .sig k abs mult parent sup fields facts => sigW k abs mult parent sup fields facts []
  | .fa kind name cs => kind :: (multW name ++ (("{" : Str) :: (clsW cs ++ ("}" : Str) :: [])))
  | .prd name ps cs => ("pred" : Str) :: name :: paramsW ps (("{" : Str) :: (clsW cs ++ ("}" : Str) :: []))
  | .fn name ps mult r b => ("fun" : Str) :: name :: paramsW ps ((":" : Str) :: (multW mult ++ (r.ws ++ (("{" : Str) :: (b.ws ++ ("}" : Str) :: [])))))
  | .cmd kind name nodes sc ex => kind :: whatW name nodes (sc.ws (exW ex))

theorem W_nil : W [] = [] := rfl
theorem W_sp (r : List Str) : W ((" " : Str) :: r) = W r := by unfold W; rw [List.filter_cons_of_neg (by decide +kernel)]
theorem W_c {x : Str} (h : x ≠ " ") (r : List Str) : W (x :: r) = x :: W r := by unfold W; rw [List.filter_cons_of_pos (by simpa [keep] using h)]
theorem ne_sp {l : List Str} {x : Str} (h : x ∈ l) (hl : l.all (fun y => !(y == (" " : Str))) = true) : x ≠ " " := by
  have := List.all_eq_true.mp hl x h
  simpa using this
theorem W_sm {s : Sm} (h : s.Ok) : W s.ps = s.ws := by
  show W (s.hd :: _) = _
  rw [W_c (ne_sp h.hd (by decide +kernel))]
  unfold Sm.ws
  congr 1
  have := h.tl
  generalize s.tl = l at this
  induction l with
  | nil => rfl
  | cons x r ih =>
    rw [List.flatMap_cons, List.flatMap_cons, W_app, ih fun y hy => this y (List.mem_cons_of_mem _ hy)]
    rw [W_sp, W_c (by decide +kernel), W_sp, W_c (ne_sp (this x List.mem_cons_self) (by decide +kernel)), W_nil]
theorem W_cl {c : Cl} (h : c.Ok) : W c.ps = c.ws := by
  cases c with
  | un g s =>
    show W (g :: " " :: s.ps) = g :: s.ws
    rw [W_c (ne_sp h.1 (by decide +kernel)), W_sp, W_sm h.2]
  | inn a b =>
    show W (a.ps ++ ([" ", "in", " "] : List Str) ++ b.ps) = a.ws ++ ((["in"] : List Str) ++ b.ws)
    rw [W_app, W_app, W_sm h.1, W_sm h.2, W_sp, W_c (by decide +kernel), W_sp, W_nil, List.append_assoc]
theorem W_mult {m : Str} (h : m ≠ " ") : W (multP m) = multW m := by
  unfold multP multW
  split
  · rfl
  · rw [W_c h, W_sp, W_nil]
theorem W_nm {k : Nat} (h1 : 1 ≤ k) (h2 : k ≤ 3) : W (namesP ((["x", "y", "z"] : List Str).take k)) = ("x" : Str) :: (nmT k).flatMap fun y => ([",", y] : List Str) := by
  obtain h | h | h : k = 1 ∨ k = 2 ∨ k = 3 := by omega
  all_goals subst h; decide +kernel
theorem W_dc {ms : List Str} {c : Dc} (h : c.Ok ms) (hm : ∀ m ∈ ms, m ∈ AMM) : W c.ps = c.ws := by
  unfold Dc.ps Dc.ws
  rw [W_app, W_app, W_app, W_app, W_nm h.lo h.hi, W_mult (ne_sp (hm _ h.mult) (by decide +kernel)), W_sm h.s, W_c (by decide +kernel) ([" "] : List Str), W_sp, W_nil]
  rw [show W (if c.disj = true then (["disj", " "] : List Str) else []) = (if c.disj = true then (["disj"] : List Str) else []) by cases c.disj <;> decide +kernel]
  simp
theorem W_nodes : ∀ {cs : List Cl}, (∀ c ∈ cs, c.Ok) → W (nodesP cs) = clsW cs
  | [], _ => rfl
  | [c], h => by
    show W c.ps = c.ws ++ []
    rw [W_cl (h c List.mem_cons_self), List.append_nil]
  | c :: d :: r, h => by
    show W (c.ps ++ ([" "] : List Str) ++ nodesP (d :: r)) = c.ws ++ clsW (d :: r)
    rw [W_app, W_app, W_cl (h c List.mem_cons_self), W_nodes fun x hx => h x (List.mem_cons_of_mem _ hx), W_sp, W_nil, List.append_nil]
theorem W_decls {ms : List Str} (hm : ∀ m ∈ ms, m ∈ AMM) : ∀ {cs : List Dc}, (∀ c ∈ cs, c.Ok ms) → W (declsP cs) = dcsW cs
  | [], _ => rfl
  | [c], h => W_dc (h c List.mem_cons_self) hm
  | c :: d :: r, h => by
    show W (c.ps ++ ([",", " "] : List Str) ++ declsP (d :: r)) = c.ws ++ ((",": Str) :: dcsW (d :: r))
    rw [W_app, W_app, W_dc (h c List.mem_cons_self) hm, W_decls hm fun x hx => h x (List.mem_cons_of_mem _ hx), W_c (by decide +kernel), W_sp, W_nil, List.append_assoc]
    rfl
theorem dec_ne {i : Int} (h0 : 0 ≤ i) (h1 : i < 12) : decS i ≠ " " := (wd_dec h0 h1).2
theorem W_nu {u : Nu} (h : u.Ok) : W u.ps = u.ws := by
  unfold Nu.ps Nu.ws
  rw [W_app, W_c (dec_ne h.lo h.hi), W_sp, W_c (ne_sp h.sig (by decide +kernel)), W_nil]
  rw [show W (if u.ex = true then (["exactly", " "] : List Str) else []) = (if u.ex = true then (["exactly"] : List Str) else []) by cases u.ex <;> decide +kernel]
theorem W_nums : ∀ {us : List Nu}, (∀ u ∈ us, u.Ok) → W (numsP us) = numsW us
  | [], _ => rfl
  | [c], h => W_nu (h c List.mem_cons_self)
  | c :: d :: r, h => by
    show W (c.ps ++ ([",", " "] : List Str) ++ numsP (d :: r)) = c.ws ++ ((",": Str) :: numsW (d :: r))
    rw [W_app, W_app, W_nu (h c List.mem_cons_self), W_nums fun x hx => h x (List.mem_cons_of_mem _ hx), W_c (by decide +kernel), W_sp, W_nil, List.append_assoc]
    rfl
theorem W_block {cs : List Cl} (h : Cls cs) (rest : List Str) : W (blockP cs) ++ rest = ("{" : Str) :: (clsW cs ++ ("}" : Str) :: rest) := by
  unfold blockP
  split
  · rename_i q
    rw [List.eq_nil_of_length_eq_zero q, W_c (by decide +kernel), W_sp, W_c (by decide +kernel), W_nil]
    rfl
  · rw [W_app, W_app, W_nodes h.1, W_c (by decide +kernel), W_sp, W_nil, W_sp, W_c (by decide +kernel), W_nil]
    simp
theorem W_params {ms : List Str} {ps : List Dc} (h : Dcs ms ps) (hm : ∀ m ∈ ms, m ∈ AMM) (rest : List Str) : W (paramsP ps) ++ rest = paramsW ps rest := by
  unfold paramsP paramsW
  split
  · rfl
  · rw [W_app, W_app, W_decls hm h.1, W_c (by decide +kernel), W_nil, W_c (by decide +kernel), W_nil]
    simp
theorem W_sc {s : Sc} (h : s.Ok) (rest : List Str) : W s.ps ++ rest = s.ws rest := by
  unfold Sc.ps Sc.ws
  split
  · split
    · rfl
    · rw [W_app, W_nums h.nums, W_sp, W_c (by decide +kernel), W_sp, W_nil]
      simp
  · rename_i q
    rw [W_app, W_sp, W_c (by decide +kernel), W_sp, W_c (dec_ne (by omega) (by have := h.hi; omega)), W_nil]
    split
    · rfl
    · rw [W_app, W_nums h.nums, W_sp, W_c (by decide +kernel), W_sp, W_nil]
      simp
theorem W_it {it : It} (h : it.Ok) : W it.ps = it.ws := by
  cases it with
  | opn k as =>
    obtain ⟨hk, has⟩ := h
    have key : ∀ (k : Fin 3), ∀ as ∈ (["", "o"] : List Str), W (It.ps (.opn k.val as)) = It.ws (.opn k.val as) := by decide +kernel
    exact key ⟨k, by omega⟩ as has
  | sig k abs mult parent sup fields facts =>
    obtain ⟨k1, k2, hm, hp, hf, hfa⟩ := h
    have hff : ∀ m ∈ (["", "one", "lone", "some", "set"] : List Str), m ∈ AMM := fun _ h => h
    have h1 : W ((if abs = true then (["abstract", " "] : List Str) else [])) = multW (absS abs) := by cases abs <;> decide +kernel
    have h2 : W (multP mult) = multW mult := W_mult (ne_sp hm (by decide +kernel))
    have h3 : W (["sig", " "] : List Str) = (["sig"] : List Str) := by decide +kernel
    have h4 : W (namesP ((["S", "T"] : List Str).take k)) = ("S" : Str) :: ((stT k).flatMap fun y => ([",", y] : List Str)) := by
      obtain h | h : k = 1 ∨ k = 2 := by omega
      all_goals subst h; decide +kernel
    have h5 : W (if parent = "" then (if sup = 0 then [] else ([" ", "in", " "] : List Str) ++ sep ([" ", "+", " "] : List Str) (((["A", "B"] : List Str).take sup).map one)) else ([" ", "extends", " ", parent] : List Str)) = supW parent sup := by
      unfold supW
      rcases hp with ⟨rfl, hs⟩ | ⟨rfl, rfl⟩
      · rw [if_pos rfl, if_pos rfl]
        obtain h | h | h : sup = 0 ∨ sup = 1 ∨ sup = 2 := by omega
        all_goals subst h; decide +kernel
      · decide +kernel
    have h6 : ∀ rest, W (if fields.length = 0 then ([" ", "{", " ", "}"] : List Str) else ([" ", "{", " "] : List Str) ++ declsP fields ++ ([" ", "}"] : List Str)) ++ rest = ("{" : Str) :: (dcsW fields ++ ("}" : Str) :: rest) := by
      intro rest
      split
      · rename_i q
        rw [List.eq_nil_of_length_eq_zero q, W_sp, W_c (by decide +kernel), W_sp, W_c (by decide +kernel), W_nil]
        rfl
      · rw [W_app, W_app, W_decls hff hf.1, W_sp, W_c (by decide +kernel), W_sp, W_nil, W_sp, W_c (by decide +kernel), W_nil]
        simp
    have h7 : W (if facts.length = 0 then [] else ([" "] : List Str) ++ blockP facts) = (if facts.length = 0 then [] else ("{" : Str) :: (clsW facts ++ ("}" : Str) :: [])) := by
      split
      · rfl
      · rw [W_app, W_sp, W_nil, List.nil_append, ← W_block hfa [], List.append_nil]
    show W (_ ++ _ ++ _ ++ _ ++ _ ++ _ ++ _) = sigW k abs mult parent sup fields facts []
    rw [W_app, W_app, W_app, W_app, W_app, W_app, List.append_assoc _ _ (W (if facts.length = 0 then _ else _)), h6, h7, h1, h2, h3, h4, h5]
    unfold sigW sigTail
    simp only [List.append_assoc, List.cons_append, List.nil_append]
  | fa kind name cs =>
    obtain ⟨hk, hn, hc⟩ := h
    show W (([kind] : List Str) ++ _ ++ ([" "] : List Str) ++ blockP cs) = kind :: (multW name ++ _)
    rw [← W_block hc [], List.append_nil, W_app, W_app, W_app, W_c (ne_sp hk (by decide +kernel)), W_nil, W_sp, W_nil, List.append_nil]
    rw [show W (if name = "" then [] else ([" ", name] : List Str)) = multW name by
      unfold multW
      split
      · rfl
      · rw [W_sp, W_c (ne_sp hn (by decide +kernel)), W_nil]]
    simp
  | prd name ps cs =>
    obtain ⟨hn, hp, hc⟩ := h
    show W ((["pred", " ", name] : List Str) ++ paramsP ps ++ ([" "] : List Str) ++ blockP cs) = ("pred" : Str) :: name :: paramsW ps _
    rw [← W_block hc [], List.append_nil, ← W_params hp (by decide +kernel), W_app, W_app, W_app, W_c (by decide +kernel), W_sp, W_c (ne_sp hn (by decide +kernel)), W_nil, W_sp, W_nil, List.append_nil]
    simp
  | fn name ps mult r b =>
    obtain ⟨hn, hp, hm, hr, hb⟩ := h
    show W ((["fun", " ", name] : List Str) ++ paramsP ps ++ ([":", " "] : List Str) ++ multP mult ++ r.ps ++ ([" ", "{", " "] : List Str) ++ b.ps ++ ([" ", "}"] : List Str)) = ("fun" : Str) :: name :: paramsW ps _
    rw [← W_params hp (by decide +kernel), W_app, W_app, W_app, W_app, W_app, W_app, W_app, W_mult (ne_sp hm (by decide +kernel)), W_sm hr, W_sm hb, W_c (by decide +kernel), W_sp, W_c (ne_sp hn (by decide +kernel)), W_nil]
    rw [show W (([":", " "] : List Str)) = ([":"] : List Str) by decide +kernel, show W (([" ", "{", " "] : List Str)) = (["{"] : List Str) by decide +kernel, show W (([" ", "}"] : List Str)) = (["}"] : List Str) by decide +kernel]
    simp
  | cmd kind name nodes sc ex =>
    obtain ⟨hk, hn, hs, e1, e2⟩ := h
    show W (([kind, " "] : List Str) ++ whatP name nodes ++ sc.ps ++ _) = kind :: whatW name nodes (sc.ws (exW ex))
    rw [← W_sc hs, W_app, W_app, W_app, W_c (ne_sp hk (by decide +kernel)), W_sp, W_nil]
    rw [show W (if ex < 0 then [] else ([" ", "expect", " ", decS ex] : List Str)) = exW ex by
      unfold exW
      split
      · rfl
      · rw [W_sp, W_c (by decide +kernel), W_sp, W_c (dec_ne (by omega) (by omega)), W_nil]]
    rcases hn with ⟨rfl, hn⟩ | ⟨cs, rfl, hc, rfl⟩
    · show _ ++ W ([name] : List Str) ++ _ ++ _ = kind :: name :: _
      rw [W_c (ne_sp hn (by decide +kernel)), W_nil]
      simp
    · show _ ++ W (blockP cs) ++ _ ++ _ = kind :: ("{" : Str) :: (clsW cs ++ ("}" : Str) :: _)
      rw [← W_block hc]
      simp
/-! lengths -/
theorem ite_len {c : Prop} [Decidable c] {a b : List Str} {k : Nat} (h1 : c → (cat a).length ≤ k) (h2 : ¬ c → (cat b).length ≤ k) : (cat (if c then a else b)).length ≤ k := by
  split
  · exact h1 (by assumption)
  · exact h2 (by assumption)
theorem len1 (a : Str) : (cat ([a] : List Str)).length = a.length := by rw [cat_len]; rfl
theorem It.len {it : It} (h : it.Ok) : (cat it.ps).length ≤ 1000 := by
  cases it with
  | opn k as =>
    obtain ⟨hk, has⟩ := h
    have key : ∀ (k : Fin 3), ∀ as ∈ (["", "o"] : List Str), (cat (It.ps (.opn k.val as))).length ≤ 1000 := by decide +kernel
    exact key ⟨k, by omega⟩ as has
  | sig k abs mult parent sup fields facts =>
    obtain ⟨k1, k2, hm, hp, hf, hfa⟩ := h
    have h1 : (cat (if abs = true then (["abstract", " "] : List Str) else [])).length ≤ 10 := by cases abs <;> decide +kernel
    have h2 := multP_len (m := mult)
    have h2' : mult.length ≤ 4 := str_len_of (n := 4) hm (by decide +kernel)
    have h4 : (cat (namesP ((["S", "T"] : List Str).take k))).length ≤ 10 := by
      obtain h | h : k = 1 ∨ k = 2 := by omega
      all_goals subst h; decide +kernel
    have h5 : (cat (if parent = "" then (if sup = 0 then [] else ([" ", "in", " "] : List Str) ++ sep ([" ", "+", " "] : List Str) (((["A", "B"] : List Str).take sup).map one)) else ([" ", "extends", " ", parent] : List Str))).length ≤ 20 := by
      rcases hp with ⟨rfl, hs⟩ | ⟨rfl, rfl⟩
      · obtain h | h | h : sup = 0 ∨ sup = 1 ∨ sup = 2 := by omega
        all_goals subst h; decide +kernel
      · decide +kernel
    have h6 : (cat (if fields.length = 0 then ([" ", "{", " ", "}"] : List Str) else ([" ", "{", " "] : List Str) ++ declsP fields ++ ([" ", "}"] : List Str))).length ≤ 70 := ite_len (fun _ => by decide +kernel) fun _ => by
      have := declsP_len hf fun c hcm => Ms.len (ms := ["", "one", "lone", "some", "set"]) (by unfold Ms; decide +kernel) (hf.1 c hcm).mult
      rw [cat_app, cat_app, Str.length_append, Str.length_append, show (cat ([" ", "{", " "] : List Str)).length = 3 from rfl, show (cat ([" ", "}"] : List Str)).length = 2 from rfl]
      omega
    have h7 : (cat (if facts.length = 0 then [] else ([" "] : List Str) ++ blockP facts)).length ≤ 60 := ite_len (fun _ => Nat.zero_le _) fun _ => by
      have := blockP_len hfa
      rw [cat_app, Str.length_append, show (cat ([" "] : List Str)).length = 1 from rfl]
      omega
    show (cat (_ ++ _ ++ (["sig", " "] : List Str) ++ _ ++ _ ++ _ ++ _)).length ≤ 1000
    rw [cat_app, cat_app, cat_app, cat_app, cat_app, cat_app, Str.length_append, Str.length_append, Str.length_append, Str.length_append, Str.length_append, Str.length_append, show (cat (["sig", " "] : List Str)).length = 4 from rfl]
    omega
  | fa kind name cs =>
    obtain ⟨hk, hn, hc⟩ := h
    have h1 := blockP_len hc
    have h2 : kind.length ≤ 6 := str_len_of (n := 6) hk (by decide +kernel)
    have h3 := nameF_len (name := name) (str_len_of (n := 2) hn (by decide +kernel))
    show (cat (([kind] : List Str) ++ _ ++ ([" "] : List Str) ++ blockP cs)).length ≤ 1000
    rw [cat_app, cat_app, cat_app, Str.length_append, Str.length_append, Str.length_append, len1, show (cat ([" "] : List Str)).length = 1 from rfl]
    omega
  | prd name ps cs =>
    obtain ⟨hn, hp, hc⟩ := h
    have h1 := blockP_len hc
    have h2 := paramsP_len hp (by unfold Ms; decide +kernel)
    have h3 : name.length ≤ 2 := str_len_of (n := 2) hn (by decide +kernel)
    show (cat (([("pred" : Str)] : List Str) ++ (([(" " : Str)] : List Str) ++ ([name] : List Str)) ++ paramsP ps ++ ([" "] : List Str) ++ blockP cs)).length ≤ 1000
    rw [cat_app, cat_app, cat_app, cat_app, cat_app, Str.length_append, Str.length_append, Str.length_append, Str.length_append, Str.length_append, len1 name, show (cat ([" "] : List Str)).length = 1 from rfl, show (cat ([("pred" : Str)] : List Str)).length = 4 from rfl]
    omega
  | fn name ps mult r b =>
    obtain ⟨hn, hp, hm, hr, hb⟩ := h
    have h2 := paramsP_len hp (by unfold Ms; decide +kernel)
    have h3 : name.length ≤ 2 := str_len_of (n := 2) hn (by decide +kernel)
    have h4 := multP_len (m := mult)
    have h4' : mult.length ≤ 4 := str_len_of (n := 4) hm (by decide +kernel)
    have h5 := Sm.len hr
    have h6 := Sm.len hb
    show (cat (([("fun" : Str)] : List Str) ++ (([(" " : Str)] : List Str) ++ ([name] : List Str)) ++ paramsP ps ++ ([":", " "] : List Str) ++ multP mult ++ r.ps ++ ([" ", "{", " "] : List Str) ++ b.ps ++ ([" ", "}"] : List Str))).length ≤ 1000
    simp only [cat_app, Str.length_append, len1 name, show (cat ([" "] : List Str)).length = 1 from rfl, show (cat ([("fun" : Str)] : List Str)).length = 3 from rfl, show (cat ([":", " "] : List Str)).length = 2 from rfl, show (cat ([" ", "{", " "] : List Str)).length = 3 from rfl, show (cat ([" ", "}"] : List Str)).length = 2 from rfl]
    omega
  | cmd kind name nodes sc ex =>
    obtain ⟨hk, hn, hs, e1, e2⟩ := h
    have h1 : kind.length ≤ 5 := str_len_of (n := 5) hk (by decide +kernel)
    have h2 : (cat (whatP name nodes)).length ≤ 60 := by
      rcases hn with ⟨rfl, hn⟩ | ⟨cs, rfl, hc, rfl⟩
      · show (cat ([name] : List Str)).length ≤ 60
        have : name.length ≤ 2 := str_len_of (n := 2) hn (by decide +kernel)
        rw [len1]; omega
      · exact Nat.le_trans (blockP_len hc) (by decide)
    have h3 := scP_len hs
    have h4 : (cat (if ex < 0 then [] else ([" ", "expect", " ", decS ex] : List Str))).length ≤ 20 := ite_len (fun _ => Nat.zero_le _) fun q => by
      have := decS_len (i := ex) (by omega) (by omega)
      rw [cat_len]
      show 1 + (6 + (1 + ((decS ex).length + 0))) ≤ 20
      omega
    show (cat (([kind] : List Str) ++ ([" "] : List Str) ++ whatP name nodes ++ sc.ps ++ _)).length ≤ 1000
    rw [cat_app, cat_app, cat_app, cat_app, Str.length_append, Str.length_append, Str.length_append, Str.length_append, len1, show (cat ([" "] : List Str)).length = 1 from rfl]
    omega
/-- all that the law needs to know of a text -/
theorem it_text {it : It} (h : it.Ok) : Seg it.ps ∧ (cat it.ps).length ≤ 1000 ∧ (∀ x ∈ it.ws, PyData.strOk x = true) ∧ it.ws.length ≤ 1000 ∧ (∀ p ∈ Txt.split (cat it.ps) spc, p ≠ Str.empty) ∧ Txt.contains (cat it.ps) (Str.ofString "\n") = false := by
  obtain ⟨t, ht, hr⟩ := ru_it h
  obtain ⟨c1, c2⟩ := run_clean _ _ _ hr ht
  have hs := (seg_of _ _ _ hr).1
  obtain ⟨s1, s2⟩ := seg_ok hs
  have hl := It.len h
  refine ⟨hs, hl, fun x hx => ?_, ?_, split_clean c1, no_nl c2⟩
  · rw [← W_it h] at hx
    exact s1 x (List.mem_filter.mp hx).1
  · rw [← W_it h]
    have : (W it.ps).length ≤ it.ps.length := List.length_filter_le _ _
    omega
end
section
set_option maxRecDepth 100000
set_option maxHeartbeats 400000
/-- the row as the words were laid -/
structure Row0 (mu : Mu) (R D : Addr) (l : List Str) : Prop where
  r : mu R = some (.dict [("words", .ref D), ("at", .dat (.int 0))])
  d : mu D = some (.list (rowL l))
  len : l.length ≤ 1000
  ne : R ≠ D
  ok : ∀ x ∈ l, PyData.strOk x = true
theorem Row0.row {mu : Mu} {R D : Addr} {l : List Str} (h : Row0 mu R D l) : Row mu R D l :=
  ⟨⟨[], h.r, h.d, by have := h.len; show (rowL l).length ≤ 2000; unfold rowL; rw [List.length_append, List.length_map]; show _ + 1 ≤ _; omega⟩, h.ne, h.ok⟩

theorem read_params_ok {C : Cx} (X : Cok C) {n : Nat} {mu : Mu} {R D : Addr} {ms : List Str} {ps : List Dc} {rest : List Str} {K : PV → Mu → Prop} (hc : Dcs ms ps) (hM : Ms ms) (hms : ∀ m ∈ ms, m ∈ (("" : Str) :: AM)) (hn : NotIn rest ["["])
    (hR : Row mu R D (paramsW ps rest)) (h : ∀ mu', Only R mu mu' → Row mu' R D rest → K (.dat (dcsB ps)) mu') : FnOk C (n + 4) "_law_read_decls" mu [.ref R, .dat (.str "["), .dat (.str "]")] K := by
  unfold paramsW at hR
  by_cases hz : ps.length = 0
  · rw [if_pos hz] at hR
    rw [List.eq_nil_of_length_eq_zero hz] at h
    exact read_decls_none X (by decide +kernel) hR hn (h mu (fun _ _ => rfl) hR)
  · rw [if_neg hz] at hR
    exact read_decls_ok X hc hM hms (.inr ⟨rfl, rfl⟩) hR h

theorem read_open {C : Cx} (X : Cok C) {n : Nat} {mu : Mu} {R D : Addr} {k : Nat} {as : Str} {K : PV → Mu → Prop} (hit : (It.opn k as).Ok)
    (hR : Row0 mu R D (It.opn k as).ws) (h : ∀ mu', Only R mu mu' → Row mu' R D [] → K (.dat (It.opn k as).b) mu') : FnOk C (n + 6) "_law_read_item" mu [.ref R] K := by
  obtain ⟨hk, has⟩ := hit
  refine enter X ["row"] (by rfl) (by rfl) (by rfl) (by rfl) rfl (bind1 rfl (fun _ => by rfl)) (by decide) (by decide) rfl rfl rfl ?_
  intro L
  have hr := hR.r
  have hd := hR.d
  have hrow : Row mu R D (("open" : Str) :: ("util/ordering" : Str) :: argsW k (asW as)) := hR.row
  walk_at "W"
  refine B_list (d := .str "open") hd (by omega) (by omega) (by rfl) ?_
  walk_at "W"
  refine ⟨rfl, by walk_at "len", ?_⟩
  walk_at "Q"
  clear hr hd
  walk_at "W"
  refine take_ok X hrow fun m1 hO1 hR1 => ⟨rfl, ?_⟩
  have e1 := (Ext.refl R mu).only hO1
  walk_at "W"; walk_at "Q"
  walk_at "W"
  refine S_swap ["path", "args"] (by rfl) ?_
  walk_at "W"
  refine take_ok X hR1 fun m2 hO2 hR2 => ?_
  have e2 := e1.only hO2
  walk_at "W"
  refine ⟨rfl, by walk_at "len", ?_⟩
  walk_at "W"
  refine ⟨rfl, by walk_at "len", ?_⟩
  refine A_bind (A_bind (A_nil ?_))
  refine S_cons ?_
  refine EvX.mid [("args", .dat (.tuple (AB.take k))), ("path", .dat (.str "util/ordering")), ("kind", .dat (.str "open")), ("row", .ref R)] (fun m => Ext R mu m ∧ Row m R D (asW as)) ?_ ?_
  · walk_at "W"
    refine ⟨rfl, by walk_at "len", fun B hB => ?_⟩
    walk_at "W"
    unfold argsW at hR2
    by_cases hz : k = 0
    · rw [if_pos hz] at hR2
      refine eat_ok X (es := ["["]) (hR2.new hB) (upd_self _ _ _) (fun z hz => by rw [List.mem_singleton.mp hz]; decide +kernel) (fun w l' hl hw => ?_) (fun _ => ?_)
      · exfalso
        revert hl
        unfold asW
        split
        · intro hl; cases hl
        · intro hl
          change ("as" : Str) :: _ = w :: l' at hl
          cases hl
          revert hw; decide +kernel
      walk_at "W"; walk_at "Q"
      refine S_nil ?_
      refine ⟨rfl, _, ⟨e2.new hB, hR2.new hB⟩, ⟨?_, fun _ _ e => e⟩⟩
      subst hz
      walk_at "sub"
    · rw [if_neg hz] at hR2
      refine eat_ok X (es := ["["]) (hR2.new hB) (upd_self _ _ _) (fun z hz => by rw [List.mem_singleton.mp hz]; decide +kernel) (fun w l' hl hw m3 hO3 hR3 => ?_) (fun hn => absurd List.mem_cons_self hn)
      cases hl
      have e3 := (e2.new hB).only hO3
      walk_at "W"; walk_at "Q"
      walk_at "W"
      refine read_names_ok X (n := n + 3) (x := "A") (ys := abT k) hR3 (by show ("]" : Str) ∉ _; decide +kernel) (by decide +kernel) (by decide) (by unfold abT; rw [List.length_take]; exact Nat.le_trans (Nat.min_le_right _ _) (by decide)) fun m4 hO4 hR4 => ?_
      have e4 := e3.only hO4
      rw [← ab_take (by omega) hk]
      walk_at "W"
      refine ⟨rfl, by walk_at "len", fun B2 hB2 => ?_⟩
      walk_at "W"
      refine eat_ok X (es := ["]"]) (hR4.new hB2) (upd_self _ _ _) (fun z hz => by rw [List.mem_singleton.mp hz]; decide +kernel) (fun w l' hl hw m5 hO5 hR5 => ?_) (fun hn => absurd List.mem_cons_self hn)
      cases hl
      refine ⟨rfl, ?_⟩
      refine S_nil ?_
      refine ⟨rfl, _, ⟨(e4.new hB2).only hO5, hR5⟩, ⟨?_, fun _ _ e => e⟩⟩
      walk_at "sub"
  rintro m6 ⟨e6, hR6⟩
  clear hR2
  walk_at "W"
  refine ⟨rfl, by walk_at "len", fun B hB => ?_⟩
  walk_at "W"
  simp only [List.mem_cons, List.not_mem_nil, or_false] at has
  rcases has with rfl | rfl
  · have hR6 : Row m6 R D [] := hR6
    refine eat_ok X (es := ["as"]) (hR6.new hB) (upd_self _ _ _) (fun z hz => by rw [List.mem_singleton.mp hz]; decide +kernel) (fun w l' hl hw => by cases hl) (fun _ => ?_)
    walk_at "W"; walk_at "Q"
    walk_at "W"
    refine ⟨rfl, by walk_at "len", ?_⟩
    exact ⟨_, (e6.new hB).ovr, h _ (only_ovr R mu _) (hR.row.ovr (e6.new hB) (hR6.new hB))⟩
  · have hR6 : Row m6 R D (("as" : Str) :: ("o" : Str) :: []) := hR6
    refine eat_ok X (es := ["as"]) (hR6.new hB) (upd_self _ _ _) (fun z hz => by rw [List.mem_singleton.mp hz]; decide +kernel) (fun w l' hl hw m7 hO7 hR7 => ?_) (fun hn => absurd List.mem_cons_self hn)
    cases hl
    walk_at "W"; walk_at "Q"
    walk_at "W"
    refine take_ok X hR7 fun m8 hO8 hR8 => ?_
    walk_at "W"
    refine ⟨rfl, by walk_at "len", ?_⟩
    exact ⟨_, (((e6.new hB).only hO7).only hO8).ovr, h _ (only_ovr R mu _) (hR.row.ovr (((e6.new hB).only hO7).only hO8) hR8)⟩

theorem read_fact {C : Cx} (X : Cok C) {n : Nat} {mu : Mu} {R D : Addr} {kind name : Str} {cs : List Cl} {K : PV → Mu → Prop} (hit : (It.fa kind name cs).Ok)
    (hR : Row0 mu R D (It.fa kind name cs).ws) (h : ∀ mu', Only R mu mu' → Row mu' R D [] → K (.dat (It.fa kind name cs).b) mu') : FnOk C (n + 6) "_law_read_item" mu [.ref R] K := by
  obtain ⟨hk, hn, hc⟩ := hit
  refine enter X ["row"] (by rfl) (by rfl) (by rfl) (by rfl) rfl (bind1 rfl (fun _ => by rfl)) (by decide) (by decide) rfl rfl rfl ?_
  intro L
  have hr := hR.r
  have hd := hR.d
  have hrow : Row mu R D (kind :: (multW name ++ (("{" : Str) :: (clsW cs ++ ("}" : Str) :: [])))) := hR.row
  have hko : PyData.strOk kind = true := hrow.ok _ List.mem_cons_self
  have hk5 : ∀ x ∈ (["fact", "assert"] : List Str), (([.str "abstract", .str "one", .str "lone", .str "some", .str "sig"] : List PyData).any fun y => PyData.eqv y (.str x)) = false ∧ PyData.eqv (.str x) (.str "open") = false ∧ (([.str "fact", .str "assert"] : List PyData).any fun y => PyData.eqv y (.str x)) = true := by
    intro x hx
    simp only [List.mem_cons, List.not_mem_nil, or_false] at hx
    rcases hx with rfl | rfl <;> exact ⟨rfl, rfl, rfl⟩
  obtain ⟨k1, k2, k3⟩ := hk5 kind hk
  walk_at "W"
  refine B_list (d := .str kind) hd (by omega) (by omega) (by rfl) ?_
  walk_at "W"
  refine ⟨rfl, by walk_at "len", ?_⟩
  refine O_in_tup (by walk_at "can") (by walk_at "sh") ⟨_, rfl, ite_f k1 ?_⟩
  clear hr hd
  walk_at "W"
  refine take_ok X hrow fun m1 hO1 hR1 => ⟨rfl, ?_⟩
  have e1 := (Ext.refl R mu).only hO1
  walk_at "W"
  refine O_eq (by walk_at "sh") (by walk_at "sh") ⟨_, rfl, ite_f k2 ?_⟩
  refine S_nil ?_
  refine S_cons ?_
  refine S_assign ?_
  refine Ev.to (.dat (.str name)) (fun m => Ext R mu m ∧ Row m R D (("{" : Str) :: (clsW cs ++ ("}" : Str) :: []))) ?_ ?_
  · obtain ⟨p0, q1, q2, q3⟩ := hR1.ex
    have hp0 : p0.length ≤ 2000 := by rw [List.length_append] at q3; omega
    walk_at "W"
    unfold multW at hR1 q2
    by_cases hz : name = ""
    · rw [if_pos hz] at hR1 q2
      refine B_list (d := .str "{") q2 (by omega) (by omega) (get_mid _ _ _) ?_
      walk_at "W"; walk_at "Q"
      walk_at "W"
      exact ⟨by rw [hz], e1, hR1⟩
    · rw [if_neg hz] at hR1 q2
      have hno : PyData.strOk name = true := hR1.ok _ List.mem_cons_self
      refine B_list (d := .str name) q2 (by omega) (by omega) (get_mid _ _ _) ?_
      walk_at "W"
      refine O_ne (by walk_at "sh") (by walk_at "sh") ⟨_, rfl, ite_t (eqv_ne (ne_of_mem hn (by decide +kernel))) ?_⟩
      clear q1 q2
      walk_at "W"
      refine take_ok X hR1 fun m2 hO2 hR2 => ?_
      exact ⟨rfl, e1.only hO2, hR2⟩
  rintro m2 ⟨e2, hR2⟩
  clear hR1
  walk_at "W"
  refine ⟨rfl, by walk_at "len", ?_⟩
  refine O_in_tup (by walk_at "can") (by walk_at "sh") ⟨_, rfl, ite_t k3 ?_⟩
  walk_at "W"
  refine read_claims_ok X (n := n + 1) hc hR2 fun m3 hO3 hR3 => ?_
  walk_at "W"
  refine ⟨rfl, by walk_at "len", ?_⟩
  exact ⟨_, (e2.only hO3).ovr, h _ (only_ovr R mu _) (hR.row.ovr (e2.only hO3) hR3)⟩
end
section
set_option maxRecDepth 100000
set_option maxHeartbeats 400000
theorem name_ne {name : Str} (h : name ∈ (["p", "q1"] : List Str)) : name ≠ "{" := ne_of_mem h (by decide +kernel)
theorem read_pred {C : Cx} (X : Cok C) {n : Nat} {mu : Mu} {R D : Addr} {name : Str} {ps : List Dc} {cs : List Cl} {K : PV → Mu → Prop} (hit : (It.prd name ps cs).Ok)
    (hR : Row0 mu R D (It.prd name ps cs).ws) (h : ∀ mu', Only R mu mu' → Row mu' R D [] → K (.dat (It.prd name ps cs).b) mu') : FnOk C (n + 6) "_law_read_item" mu [.ref R] K := by
  obtain ⟨hn, hp, hc⟩ := hit
  refine enter X ["row"] (by rfl) (by rfl) (by rfl) (by rfl) rfl (bind1 rfl (fun _ => by rfl)) (by decide) (by decide) rfl rfl rfl ?_
  intro L
  have hr := hR.r
  have hd := hR.d
  have hrow : Row mu R D (("pred" : Str) :: name :: paramsW ps (("{" : Str) :: (clsW cs ++ ("}" : Str) :: []))) := hR.row
  walk_at "W"
  refine B_list (d := .str "pred") hd (by omega) (by omega) (by rfl) ?_
  walk_at "W"
  refine ⟨rfl, by walk_at "len", ?_⟩
  walk_at "Q"
  clear hr hd
  walk_at "W"
  refine take_ok X hrow fun m1 hO1 hR1 => ⟨rfl, ?_⟩
  have e1 := (Ext.refl R mu).only hO1
  walk_at "W"; walk_at "Q"
  obtain ⟨p0, q1, q2, q3⟩ := hR1.ex
  have hp0 : p0.length ≤ 2000 := by rw [List.length_append] at q3; omega
  have hno : PyData.strOk name = true := hR1.ok _ List.mem_cons_self
  walk_at "W"
  refine B_list (d := .str name) q2 (by omega) (by omega) (get_mid _ _ _) ?_
  walk_at "W"
  refine O_ne (by walk_at "sh") (by walk_at "sh") ⟨_, rfl, ite_t (eqv_ne (name_ne hn)) ?_⟩
  clear q1 q2
  walk_at "W"
  refine take_ok X hR1 fun m2 hO2 hR2 => ?_
  have e2 := e1.only hO2
  walk_at "W"
  refine ⟨rfl, by walk_at "len", ?_⟩
  walk_at "Q"
  walk_at "W"; walk_at "Q"
  walk_at "W"
  refine read_params_ok X (n := n + 1) (ms := ["", "one", "set"]) hp (by unfold Ms; decide +kernel) (by decide +kernel) (by show ("{" : Str) ∉ _; decide +kernel) hR2 fun m3 hO3 hR3 => ?_
  have e3 := e2.only hO3
  walk_at "W"
  refine read_claims_ok X (n := n + 1) hc hR3 fun m4 hO4 hR4 => ?_
  walk_at "W"
  refine ⟨rfl, by walk_at "len", ?_⟩
  exact ⟨_, (e3.only hO4).ovr, h _ (only_ovr R mu _) (hR.row.ovr (e3.only hO4) hR4)⟩

theorem FunMs {m : Str} (h : m ∈ (["", "one", "set"] : List Str)) : m ∈ (("" : Str) :: AM) := by
  have key : ∀ m ∈ (["", "one", "set"] : List Str), m ∈ (("" : Str) :: AM) := by decide +kernel
  exact key m h
theorem read_fun {C : Cx} (X : Cok C) {n : Nat} {mu : Mu} {R D : Addr} {name mult : Str} {ps : List Dc} {r b : Sm} {K : PV → Mu → Prop} (hit : (It.fn name ps mult r b).Ok)
    (hR : Row0 mu R D (It.fn name ps mult r b).ws) (h : ∀ mu', Only R mu mu' → Row mu' R D [] → K (.dat (It.fn name ps mult r b).b) mu') : FnOk C (n + 6) "_law_read_item" mu [.ref R] K := by
  obtain ⟨hn, hp, hm, hro, hbo⟩ := hit
  refine enter X ["row"] (by rfl) (by rfl) (by rfl) (by rfl) rfl (bind1 rfl (fun _ => by rfl)) (by decide) (by decide) rfl rfl rfl ?_
  intro L
  have hr := hR.r
  have hd := hR.d
  have hrow : Row mu R D (("fun" : Str) :: name :: paramsW ps ((":" : Str) :: (multW mult ++ (r.ws ++ (("{" : Str) :: (b.ws ++ ("}" : Str) :: [])))))) := hR.row
  walk_at "W"
  refine B_list (d := .str "fun") hd (by omega) (by omega) (by rfl) ?_
  walk_at "W"
  refine ⟨rfl, by walk_at "len", ?_⟩
  walk_at "Q"
  clear hr hd
  walk_at "W"
  refine take_ok X hrow fun m1 hO1 hR1 => ⟨rfl, ?_⟩
  have e1 := (Ext.refl R mu).only hO1
  walk_at "W"; walk_at "Q"
  obtain ⟨p0, q1, q2, q3⟩ := hR1.ex
  have hp0 : p0.length ≤ 2000 := by rw [List.length_append] at q3; omega
  have hno : PyData.strOk name = true := hR1.ok _ List.mem_cons_self
  walk_at "W"
  refine B_list (d := .str name) q2 (by omega) (by omega) (get_mid _ _ _) ?_
  walk_at "W"
  refine O_ne (by walk_at "sh") (by walk_at "sh") ⟨_, rfl, ite_t (eqv_ne (name_ne hn)) ?_⟩
  clear q1 q2
  walk_at "W"
  refine take_ok X hR1 fun m2 hO2 hR2 => ?_
  have e2 := e1.only hO2
  walk_at "W"
  refine ⟨rfl, by walk_at "len", ?_⟩
  walk_at "Q"
  walk_at "W"; walk_at "Q"
  walk_at "W"; walk_at "Q"
  walk_at "W"
  refine S_swap ["params", "colon"] (by rfl) ?_
  walk_at "W"
  refine read_params_ok X (n := n + 1) (ms := ["", "lone"]) hp (by unfold Ms; decide +kernel) (by decide +kernel) (by show (":" : Str) ∉ _; decide +kernel) hR2 fun m3 hO3 hR3 => ?_
  have e3 := e2.only hO3
  walk_at "W"
  refine ⟨rfl, by walk_at "len", fun B hB => ?_⟩
  walk_at "W"
  refine eat_ok X (es := [":"]) (hR3.new hB) (upd_self _ _ _) (fun z hz => by rw [List.mem_singleton.mp hz]; decide +kernel) (fun w l' hl hw m4 hO4 hR4 => ?_) (fun hn => absurd List.mem_cons_self hn)
  cases hl
  have e4 := (e3.new hB).only hO4
  walk_at "W"
  refine ⟨rfl, by walk_at "len", ?_⟩
  refine A_bind (A_bind (A_nil ?_))
  walk_at "W"
  refine S_swap ["mult", "result"] (by rfl) ?_
  walk_at "W"
  refine ⟨rfl, by walk_at "len", fun B2 hB2 => ?_⟩
  walk_at "W"
  refine eat_mult X (m := mult) (es := AM) hro (FunMs hm) am_ok (fun x hx => not_mem_of hx (by decide +kernel)) (by decide +kernel) (hR4.new hB2) (upd_self _ _ _) fun m5 hO5 hR5 => ?_
  have e5 := (e4.new hB2).only hO5
  walk_at "W"
  refine read_sum_ok X (n := n + 2) hro hR5 (by show ("{" : Str) ∉ _; decide +kernel) fun m6 hO6 hR6 => ?_
  have e6 := e5.only hO6
  walk_at "W"
  refine ⟨rfl, by walk_at "len", ?_⟩
  refine A_bind (A_bind (A_nil ?_))
  walk_at "W"
  refine S_swap ["begin", "body", "end"] (by rfl) ?_
  walk_at "W"
  refine ⟨rfl, by walk_at "len", fun B3 hB3 => ?_⟩
  walk_at "W"
  refine eat_ok X (es := ["{"]) (hR6.new hB3) (upd_self _ _ _) (fun z hz => by rw [List.mem_singleton.mp hz]; decide +kernel) (fun w l' hl hw m7 hO7 hR7 => ?_) (fun hn => absurd List.mem_cons_self hn)
  cases hl
  have e7 := (e6.new hB3).only hO7
  walk_at "W"
  refine read_sum_ok X (n := n + 2) hbo hR7 (by show ("}" : Str) ∉ _; decide +kernel) fun m8 hO8 hR8 => ?_
  have e8 := e7.only hO8
  walk_at "W"
  refine ⟨rfl, by walk_at "len", fun B4 hB4 => ?_⟩
  walk_at "W"
  refine eat_ok X (es := ["}"]) (hR8.new hB4) (upd_self _ _ _) (fun z hz => by rw [List.mem_singleton.mp hz]; decide +kernel) (fun w l' hl hw m9 hO9 hR9 => ?_) (fun hn => absurd List.mem_cons_self hn)
  cases hl
  have e9 := (e8.new hB4).only hO9
  walk_at "W"
  refine ⟨rfl, by walk_at "len", ?_⟩
  refine A_bind (A_bind (A_bind (A_nil ?_)))
  walk_at "W"
  refine O_add_str (by decide +kernel) ?_
  walk_at "W"
  refine O_add_str (by decide +kernel) ?_
  walk_at "W"
  refine O_eq (shaped_str (by decide +kernel)) (by walk_at "sh") ⟨_, rfl, ite_t (by rw [eqv_str]; decide +kernel) ?_⟩
  walk_at "W"
  refine ⟨rfl, by walk_at "len", ?_⟩
  exact ⟨_, e9.ovr, h _ (only_ovr R mu _) (hR.row.ovr e9 hR9)⟩
end
section
set_option maxRecDepth 100000
set_option maxHeartbeats 400000
theorem ex_rest {ex : Int} : exW ex = [] ∨ ∃ r, exW ex = ("expect" : Str) :: r := by
  unfold exW
  split
  · exact .inl rfl
  · exact .inr ⟨_, rfl⟩
def nodesW (nodes : Option (List Cl)) (tail : List Str) : List Str := match nodes with
  | none => tail
  | some cs => ("{" : Str) :: (clsW cs ++ ("}" : Str) :: tail)
theorem read_cmd {C : Cx} (X : Cok C) {n : Nat} {mu : Mu} {R D : Addr} {kind name : Str} {nodes : Option (List Cl)} {sc : Sc} {ex : Int} {K : PV → Mu → Prop} (hit : (It.cmd kind name nodes sc ex).Ok)
    (hR : Row0 mu R D (It.cmd kind name nodes sc ex).ws) (h : ∀ mu', Only R mu mu' → Row mu' R D [] → K (.dat (It.cmd kind name nodes sc ex).b) mu') : FnOk C (n + 6) "_law_read_item" mu [.ref R] K := by
  obtain ⟨hk, hn, hs, x0, x1⟩ := hit
  refine enter X ["row"] (by rfl) (by rfl) (by rfl) (by rfl) rfl (bind1 rfl (fun _ => by rfl)) (by decide) (by decide) rfl rfl rfl ?_
  intro L
  have hr := hR.r
  have hd := hR.d
  have hrow : Row mu R D (kind :: whatW name nodes (sc.ws (exW ex))) := hR.row
  have hko : PyData.strOk kind = true := hrow.ok _ List.mem_cons_self
  have hk5 : ∀ x ∈ (["run", "check"] : List Str), (([.str "abstract", .str "one", .str "lone", .str "some", .str "sig"] : List PyData).any fun y => PyData.eqv y (.str x)) = false ∧ PyData.eqv (.str x) (.str "open") = false ∧ (([.str "fact", .str "assert"] : List PyData).any fun y => PyData.eqv y (.str x)) = false ∧ PyData.eqv (.str x) (.str "pred") = false ∧ PyData.eqv (.str x) (.str "fun") = false := by
    intro x hx
    simp only [List.mem_cons, List.not_mem_nil, or_false] at hx
    rcases hx with rfl | rfl <;> exact ⟨rfl, rfl, rfl, rfl, rfl⟩
  obtain ⟨k1, k2, k3, k4, k5⟩ := hk5 kind hk
  walk_at "W"
  refine B_list (d := .str kind) hd (by omega) (by omega) (by rfl) ?_
  walk_at "W"
  refine ⟨rfl, by walk_at "len", ?_⟩
  refine O_in_tup (by walk_at "can") (by walk_at "sh") ⟨_, rfl, ite_f k1 ?_⟩
  clear hr hd
  walk_at "W"
  refine take_ok X hrow fun m1 hO1 hR1 => ⟨rfl, ?_⟩
  have e1 := (Ext.refl R mu).only hO1
  walk_at "W"
  refine O_eq (by walk_at "sh") (by walk_at "sh") ⟨_, rfl, ite_f k2 ?_⟩
  refine S_nil ?_
  refine S_cons ?_
  refine S_assign ?_
  refine Ev.to (.dat (.str name)) (fun m => Ext R mu m ∧ Row m R D (nodesW nodes (sc.ws (exW ex)))) ?_ ?_
  · obtain ⟨p0, q1, q2, q3⟩ := hR1.ex
    have hp0 : p0.length ≤ 2000 := by rw [List.length_append] at q3; omega
    walk_at "W"
    rcases hn with ⟨rfl, hn⟩ | ⟨cs, rfl, hc, rfl⟩
    · have hno : PyData.strOk name = true := hR1.ok _ List.mem_cons_self
      refine B_list (d := .str name) q2 (by omega) (by omega) (get_mid _ _ _) ?_
      walk_at "W"
      refine O_ne (by walk_at "sh") (by walk_at "sh") ⟨_, rfl, ite_t (eqv_ne (name_ne hn)) ?_⟩
      clear q1 q2
      walk_at "W"
      refine take_ok X hR1 fun m2 hO2 hR2 => ?_
      exact ⟨rfl, e1.only hO2, hR2⟩
    · refine B_list (d := .str "{") q2 (by omega) (by omega) (get_mid _ _ _) ?_
      walk_at "W"; walk_at "Q"
      walk_at "W"
      exact ⟨rfl, e1, hR1⟩
  rintro m2 ⟨e2, hR2⟩
  clear hR1
  walk_at "W"
  refine ⟨rfl, by walk_at "len", ?_⟩
  refine O_in_tup (by walk_at "can") (by walk_at "sh") ⟨_, rfl, ite_f k3 ?_⟩
  walk_at "W"
  refine O_eq (by walk_at "sh") (by walk_at "sh") ⟨_, rfl, ite_f k4 ?_⟩
  walk_at "W"
  refine O_eq (by walk_at "sh") (by walk_at "sh") ⟨_, rfl, ite_f k5 ?_⟩
  refine S_nil ?_
  refine S_cons ?_
  refine S_assign ?_
  refine Ev.to (.dat (nodesB nodes)) (fun m => Ext R mu m ∧ Row m R D (sc.ws (exW ex))) ?_ ?_
  · walk_at "W"
    rcases hn with ⟨rfl, hn⟩ | ⟨cs, rfl, hc, rfl⟩
    · have hno : PyData.strOk name = true := List.all_eq_true.mp (show (["p", "q1"] : List Str).all PyData.strOk = true by decide +kernel) _ hn
      refine O_eq (by walk_at "sh") (by walk_at "sh") ⟨_, rfl, ite_f (by rw [eqv_str]; exact beq_false_of_ne (ne_of_mem hn (by decide +kernel))) ?_⟩
      walk_at "W"
      exact ⟨rfl, e2, hR2⟩
    · walk_at "Q"
      walk_at "W"
      refine read_claims_ok X (n := n + 1) hc hR2 fun m3 hO3 hR3 => ?_
      exact ⟨rfl, e2.only hO3, hR3⟩
  rintro m3 ⟨e3, hR3⟩
  clear hR2
  walk_at "W"
  refine read_scope_ok X (n := n + 3) hs ex_rest hR3 fun m4 hO4 hR4 => ?_
  have e4 := e3.only hO4
  walk_at "W"
  refine ⟨rfl, by walk_at "len", fun B hB => ?_⟩
  walk_at "W"
  unfold exW at hR4
  by_cases hz : ex < 0
  · rw [if_pos hz] at hR4
    refine eat_ok X (es := ["expect"]) (hR4.new hB) (upd_self _ _ _) (fun z hz => by rw [List.mem_singleton.mp hz]; decide +kernel) (fun w l' hl hw => by cases hl) (fun _ => ?_)
    walk_at "W"; walk_at "Q"
    walk_at "W"
    refine ⟨_, rfl, ?_⟩
    walk_at "W"
    refine ⟨rfl, by walk_at "len", ?_⟩
    rw [show ex = -1 by omega] at h
    exact ⟨_, (e4.new hB).ovr, h _ (only_ovr R mu _) (hR.row.ovr (e4.new hB) (hR4.new hB))⟩
  · rw [if_neg hz] at hR4
    refine eat_ok X (es := ["expect"]) (hR4.new hB) (upd_self _ _ _) (fun z hz => by rw [List.mem_singleton.mp hz]; decide +kernel) (fun w l' hl hw m5 hO5 hR5 => ?_) (fun hn => absurd List.mem_cons_self hn)
    cases hl
    have e5 := (e4.new hB).only hO5
    walk_at "W"; walk_at "Q"
    walk_at "W"
    refine take_ok X hR5 fun m6 hO6 hR6 => ?_
    have e6 := e5.only hO6
    walk_at "W"
    refine C_int_str (by omega) (by omega) ?_
    walk_at "W"
    refine ⟨rfl, by walk_at "len", ?_⟩
    exact ⟨_, e6.ovr, h _ (only_ovr R mu _) (hR.row.ovr e6 hR6)⟩

theorem read_sigI {C : Cx} (X : Cok C) {n : Nat} {mu : Mu} {R D : Addr} {k : Nat} {abs : Bool} {mult parent : Str} {sup : Nat} {fields : List Dc} {facts : List Cl} {K : PV → Mu → Prop} (hit : (It.sig k abs mult parent sup fields facts).Ok)
    (hR : Row0 mu R D (It.sig k abs mult parent sup fields facts).ws) (h : ∀ mu', Only R mu mu' → Row mu' R D [] → K (.dat (It.sig k abs mult parent sup fields facts).b) mu') : FnOk C (n + 6) "_law_read_item" mu [.ref R] K := by
  refine enter X ["row"] (by rfl) (by rfl) (by rfl) (by rfl) rfl (bind1 rfl (fun _ => by rfl)) (by decide) (by decide) rfl rfl rfl ?_
  intro L
  have hr := hR.r
  have hd := hR.d
  have hrow : Row mu R D (sigW k abs mult parent sup fields facts []) := hR.row
  obtain ⟨kind, tl, hw, hk⟩ : ∃ kind tl, (It.sig k abs mult parent sup fields facts).ws = kind :: tl ∧ kind ∈ (["abstract", "one", "lone", "some", "sig"] : List Str) := by
    have hm := hit.2.2.1
    show ∃ kind tl, sigW k abs mult parent sup fields facts [] = kind :: tl ∧ _
    unfold sigW
    cases abs with
    | true => exact ⟨_, _, rfl, List.mem_cons_self⟩
    | false =>
      show ∃ kind tl, multW mult ++ _ = kind :: tl ∧ _
      simp only [List.mem_cons, List.not_mem_nil, or_false] at hm
      rcases hm with rfl | rfl | rfl | rfl
      · exact ⟨_, _, rfl, by decide +kernel⟩
      · exact ⟨_, _, rfl, by decide +kernel⟩
      · exact ⟨_, _, rfl, by decide +kernel⟩
      · exact ⟨_, _, rfl, by decide +kernel⟩
  have hko : PyData.strOk kind = true := hR.ok _ (by rw [hw]; exact List.mem_cons_self)
  rw [hw] at hd
  walk_at "W"
  refine B_list (d := .str kind) hd (by omega) (by omega) (by rfl) ?_
  walk_at "W"
  refine ⟨rfl, by walk_at "len", ?_⟩
  refine O_in_tup (by walk_at "can") (by walk_at "sh") ⟨_, rfl, ite_t ?_ ?_⟩
  · exact (any_str (es := ["abstract", "one", "lone", "some", "sig"])).trans (decide_eq_true hk)
  clear hr hd
  walk_at "W"
  refine read_sig_ok X (n := n) hit hrow fun m1 hO1 hR1 => ?_
  exact ⟨m1, fun _ _ e => e, h m1 hO1 hR1⟩

theorem read_item_ok {C : Cx} (X : Cok C) {n : Nat} {mu : Mu} {R D : Addr} {it : It} {K : PV → Mu → Prop} (hit : it.Ok) (hR : Row0 mu R D it.ws) (h : ∀ mu', Only R mu mu' → Row mu' R D [] → K (.dat it.b) mu') : FnOk C (n + 6) "_law_read_item" mu [.ref R] K := by
  cases it with
  | opn k as => exact read_open X hit hR h
  | sig k abs mult parent sup fields facts => exact read_sigI X hit hR h
  | fa kind name cs => exact read_fact X hit hR h
  | prd name ps cs => exact read_pred X hit hR h
  | fn name ps mult r b => exact read_fun X hit hR h
  | cmd kind name nodes sc ex => exact read_cmd X hit hR h
end
section
set_option maxRecDepth 100000
set_option maxHeartbeats 400000
/-- the script: a list of ints under the law -/
def Scr (h : Heap) (a : Addr) : Prop := ∃ vs : Array Value, h.IsList a vs ∧ (∀ v ∈ vs.toList, ∃ i t, v = Value.int i t) ∧ vs.size ≤ 63
theorem rd_ints : ∀ {l : List Value}, (∀ v ∈ l, ∃ i t, v = Value.int i t) → ∃ zs : List Int, zs.length = l.length ∧ ∀ h : Heap, RdAll h l (zs.map .int)
  | [], _ => ⟨[], rfl, fun _ => .nil⟩
  | v :: l, hl => by
    obtain ⟨i, t, rfl⟩ := hl v List.mem_cons_self
    obtain ⟨zs, h1, h2⟩ := rd_ints fun u hu => hl u (List.mem_cons_of_mem _ hu)
    exact ⟨i :: zs, by rw [List.length_cons, h1, List.length_cons], fun h => .cons (.int _ _) (h2 h)⟩
theorem Z_scr {C : Cx} {n : Nat} {mu : Mu} {K : PV → Mu → Prop} {value slice : Expr} {a : Addr} {hi : Int} (hsc : Scr C.h a) (h : ∀ (B : Addr) (zs : List Int), mu B = none → zs.length ≤ 63 → K (.ref B) (upd mu B (.list (zs.map .int))))
    (hs : ∀ o i, subscripted slice false o i = operate [i, o] (getItem o i) := by intro _ _; rfl) : SlOk C n mu value slice (.ref a) none (some hi) K := by
  intro A s v1 vl vu q r hv pl pu
  cases hv
  obtain ⟨vs, hL, hint, hsz⟩ := hsc
  obtain ⟨o, ho, hc, k, hd⟩ := hL
  have g := Grow.push s { cls := .type "slice", data := .fields #[vl, vu, .none] } s.toks
  have hL1 : (s.heap.push { cls := .type "slice", data := .fields #[vl, vu, .none] }).IsList a vs := ⟨o, g.keep _ _ (r.base _ _ ho), hc, k, hd⟩
  refine tail_any (s := { s with heap := s.heap.push { cls := .type "slice", data := .fields #[vl, vu, .none] } }) (T := "list") hL1.typeIs list_getitem_lookup
    (wpAny_getItem_list_slice (s := { s with heap := s.heap.push { cls := .type "slice", data := .fields #[vl, vu, .none] } }) hL1 (Heap.IsSliceOf.new ..) pl pu .none (by simp) ?_ (by rw [sizeLine_eq]; omega)) (hs _ _)
  have hmem : ∀ v ∈ (slicePick vs none (some hi) none).toList, ∃ i t, v = Value.int i t := by
    intro v hv
    unfold slicePick at hv
    rw [List.toList_toArray] at hv
    obtain ⟨j, _, hj⟩ := List.mem_filterMap.mp hv
    exact hint v (by rw [Array.mem_toList_iff]; exact Array.mem_of_getElem? hj)
  obtain ⟨zs, hzl, hz⟩ := rd_ints hmem
  have hzs : zs.length ≤ 63 := by
    rw [hzl, Array.length_toList]
    exact Nat.le_trans (slicePick_size_le vs none (some hi) none) hsz
  have hnone : s.heap.get? (s.heap.push { cls := .type "slice", data := .fields #[vl, vu, .none] }).objs.size = none := by
    cases q : s.heap.get? (s.heap.push { cls := .type "slice", data := .fields #[vl, vu, .none] }).objs.size with
    | none => rfl
    | some o => exact absurd (Heap.lt_size q) (by simp)
  refine post_new (o := .list (zs.map .int)) r hnone (fun b o e => Heap.get?_push_of_some _ (g.keep b o e)) ⟨_, ⟨_, Heap.get?_push_size _ rfl⟩, hz _⟩ rfl rfl fun B hB => h B zs hB hzs

theorem Tank.le {mu m : Mu} {T D : Addr} {a : Int} (h : Tank mu T D a) (l : Le mu m) : Tank m T D a := by
  obtain ⟨cs, h1, h2, h3⟩ := h.cells
  exact ⟨l _ _ h.dict, ⟨cs, l _ _ h1, h2, h3⟩, h.ne, h.lo⟩
theorem Tank.only {mu m : Mu} {T D R : Addr} {a : Int} (h : Tank mu T D a) (o : Only R mu m) (h1 : T ≠ R) (h2 : D ≠ R) : Tank m T D a := by
  obtain ⟨cs, q1, q2, q3⟩ := h.cells
  exact ⟨(o T h1).trans h.dict, ⟨cs, (o D h2).trans q1, q2, q3⟩, h.ne, h.lo⟩

/-- how the walk ends the claim -/
theorem finish {prog : Program} {w : World} {h₁ : Heap} {mg mb : Str → Option Value} {mean : ExcName → Option Value} (T : Top view (looseW view []) mean mg mb h₁) (B : Tables view w mg h₁) {A : Around} {env : Env} {body : List Stmt} {s : Shared} {Q : Flow → Shared → Prop} {E : Value → Shared → Prop} {a : Addr}
    (hA : Room 30 A) (hkeep : ∀ b o, h₁.get? b = some o → s.heap.get? b = some o) (hL : env.locals = h₁.objs.size) {m : Str → Option Value} (hns : s.heap.Ns env.locals m) (hm : m "script" = some (.ref a)) (hs : Scr h₁ a)
    (walk : ∀ C : Cx, Cok C → Scr C.h a → EvS C 30 env body ⟨[("script", .ref a)], fun _ => none⟩ fun fl _ => fl = .ret (.dat (.bool true)))
    (hq : ∀ s', (∀ b o, h₁.get? b = some o → s'.heap.get? b = some o) → s'.gens = s.gens → s'.os = s.os → Q (.ret (.bool true)) s') : wpAny (model prog w) A (execs body env) Q E s := by
  obtain ⟨fv, hC⟩ := cok_of (prog := prog) ⟨T.g, T.b, T.nolimit, T.builtins⟩ T B
  refine wpAny_no ?_
  refine wpAny_mono (walk ⟨prog, w, h₁, mg, mb, fv, ⟨T.g, T.b, T.nolimit, T.builtins⟩⟩ hC hs A s hA ⟨⟨hkeep, fun _ _ e => by cases e⟩, rfl, by rw [hL]; exact noLive _, ⟨m, hns, fun x p e _ => ?_⟩⟩) ?_ fun _ _ x => x
  · by_cases hx : x = "script"
    · subst hx
      rw [lookup_cons_self] at e; cases e
      exact ⟨_, hm, rfl⟩
    · rw [lookup_cons_ne hx] at e; cases e
  · rintro f s' ⟨fl, S', hf, r, st, rfl⟩
    cases f with
    | ret v =>
      cases hf
      exact hq s' r.rb.base st.gens st.os
    | _ => exact hf.elim

theorem join_chars {s : Str} : ∀ {parts : List Str} {p : Str}, p ∈ parts → ∀ c ∈ p.cps.toList, c ∈ (Str.join s parts).cps.toList
  | [], _, h => absurd h List.not_mem_nil
  | [x], p, h => by rw [List.mem_singleton.mp h]; exact fun c hc => hc
  | x :: y :: r, p, h => by
    intro c hc
    have e : (Str.join s (x :: y :: r)).cps.toList = x.cps.toList ++ (s.cps.toList ++ (Str.join s (y :: r)).cps.toList) := by
      show (x ++ s ++ Str.join s (y :: r)).cps.toList = _
      simp [Str.cps_append]
    rw [e]
    rcases List.mem_cons.mp h with rfl | h
    · exact List.mem_append_left _ hc
    · exact List.mem_append_right _ (List.mem_append_right _ (join_chars h c hc))
theorem strOk_iff {x : Str} : PyData.strOk x = true ↔ ∀ c ∈ x.cps.toList, c < 0x110000 := by
  unfold PyData.strOk
  rw [← Array.all_toList, List.all_eq_true]
  exact ⟨fun h c hc => of_decide_eq_true (h c hc), fun h c hc => decide_eq_true (h c hc)⟩
theorem split_strOk {x y : Str} (h : PyData.strOk x = true) : ∀ p ∈ Txt.split x y, PyData.strOk p = true := fun p hp =>
  strOk_iff.mpr fun c hc => strOk_iff.mp h c (by rw [← StrLaws.join_split x y]; exact join_chars hp c hc)
theorem cat_strOk : ∀ {ps : List Str}, (∀ x ∈ ps, PyData.strOk x = true) → PyData.strOk (cat ps) = true
  | [], _ => by decide +kernel
  | x :: r, h => by
    have i := cat_strOk fun y hy => h y (List.mem_cons_of_mem x hy)
    refine strOk_iff.mpr fun c hc => ?_
    rw [cat_cons, Str.cps_append, Array.toList_append] at hc
    rcases List.mem_append.mp hc with hc | hc
    · exact strOk_iff.mp (h x List.mem_cons_self) c hc
    · exact strOk_iff.mp i c hc
theorem it_strOk {it : It} (h : it.Ok) : PyData.strOk (cat it.ps) = true := by
  obtain ⟨t, _, hr⟩ := ru_it h
  exact cat_strOk (seg_ok (seg_of _ _ _ hr).1).1
end
section
set_option maxRecDepth 100000
set_option maxHeartbeats 8000000
theorem ints_are {l : List Value} {zs : List Int} (h : IntsAre l zs) : ∀ v ∈ l, ∃ i t, v = Value.int i t := by
  induction h with
  | nil => exact fun _ h => absurd h List.not_mem_nil
  | cons i t _ ih =>
    intro v hv
    rcases List.mem_cons.mp hv with rfl | hv
    · exact ⟨_, _, rfl⟩
    · exact ih v hv
theorem item_list_some {α β : Type} {f : α → β} {l : List α} {i : Nat} {d : β} (h : (l.map f)[i]? = some d) : ∃ z, l[i]? = some z ∧ d = f z := by
  rw [List.getElem?_map] at h
  cases hc : l[i]? with
  | none => rw [hc] at h; simp at h
  | some z => rw [hc] at h; exact ⟨z, rfl, by simpa using h.symm⟩
theorem take_succ {α : Type} {l : List α} {i : Nat} {z : α} (h : l[i]? = some z) : l.take (i + 1) = l.take i ++ [z] := by
  rw [List.take_add_one, h]; rfl
theorem absnn (z : Int) : 0 ≤ (if z < 0 then -z else z) := by split <;> omega
theorem split_join_len (x : Str) : ((Txt.split x spc).map (·.length)).sum + (Txt.split x spc).length * spc.length ≤ x.length + 1 := by
  have := split_weight x spc (by decide)
  rw [show spc.length = 1 from rfl, Nat.mul_one]
  exact this

theorem Tank.drop {mu : Mu} {T D B : Addr} {a : Int} (h : Tank mu T D a) (h1 : B ≠ T) (h2 : B ≠ D) : Tank (Mine.drop mu B) T D a := by
  obtain ⟨cs, q1, q2, q3⟩ := h.cells
  refine ⟨?_, ⟨cs, ?_, q2, q3⟩, h.ne, h.lo⟩
  · unfold Mine.drop; rw [if_neg (Ne.symm h1)]; exact h.dict
  · unfold Mine.drop; rw [if_neg (Ne.symm h2)]; exact q1

theorem law_holds : PySem.Challenge.rw_rr0080_01.Holds := by
  w_on
  refine holds_law said fun sd => ?_
  refine holds_open (r := PySem.Challenge.rw_rr0080_01.row) (q := view) (loose := []) (Xt := fun s => xlAt view [] s && recOk [] s) (XP := XL view []) (Yf := fun _ => ()) (Ya := fun _ => ()) (YP := fun _ _ => True) (N := 2684)
    left (fun _ _ _ => trivial) (fun _ _ _ _ _ => trivial) (fun s e => xl_of s (Bool.and_eq_true_iff.mp e).1) XL.keeps (by rfl) (by rfl) (by rfl) (fun s e => recFacts_of (Bool.and_eq_true_iff.mp e).2) (by rfl) sd (Bool.and_eq_true_iff.mpr ⟨chained, by rfl⟩) ⟨rfl, rfl, rfl, rfl, rfl, by decide +kernel⟩ ?hw ?hc
  case hw => w_witness2
  intro w s₀ s₁ mg mb G Y fa o pm cd doc dV kV ho hd hcd hD hmg hg args vals as hpre hlay hrd hwl hlo
  have T0 := G.T
  have B0 := G.B
  clear hmg
  wrow_args hpre hlay hrd hwl hlo
  refine enter_call ?_
  w_top on
  refine codeAny_mono ?_ (fun _ _ g => GoodW.toG g)
  w_call any ho hd hcd hD T0 F
  rename_i zz0 hs hlay hL1 hr1 hl2 x4 x3 la vs x0 hL ra W1 r0 hI hr hc1 hc2 h1 N0
  have hscr : Scr s₁.heap la := ⟨vs.toArray, hL, fun v hv => ints_are hI v (by simpa using hv), by
    have e := hI.length
    rw [List.size_toArray]
    omega⟩
  have hroom : ∀ env : Env, Room 30 (callerA.deeper env) := fun env => ⟨rfl, by show 1 + claimMargin + 1 + 30 < recursionLimit; decide, by show 4 + 3 + 3 * 30 + 100 < cLine; decide⟩
  refine finish T0 B0 (a := la) (hroom _) F.keep rfl F.ns (by rfl) hscr ?_ ?_
  · clear hscr hroom N0 F hD hc2 hc1 hr hI r0 W1 ra hL hl2 hr1 hL1 hlay hs hcd B0 T0 hg ho Y G sd
    intro C X hscr
    walk_at "W"
    refine E_dictX (by rfl) (by rfl) (by simp) (by decide) ?_
    refine D_cons ?_
    refine E_comp [] (fun items i acc _ => (∃ zs : List Int, items = zs.map .int) ∧ ∃ cs : List Int, acc = cs.map .int ∧ cs.length = i ∧ ∀ c ∈ cs, 0 ≤ c) ?_
    refine Src_list ?_
    walk_at "W"
    refine ⟨_, rfl, ?_⟩
    refine Z_scr hscr fun B zs hB hzs => ?_
    refine ⟨B, _, rfl, upd_self _ _ _, ?_⟩
    refine ⟨by rw [List.length_map, sizeLine_eq]; omega, ⟨⟨zs, rfl⟩, [], rfl, rfl, fun _ h => absurd h List.not_mem_nil⟩, ?_, ?_, ?_⟩
    · rintro i acc m ⟨_, cs, rfl, h2, _⟩
      rw [List.length_map, h2]; exact Nat.le_refl _
    · rintro i d acc m L hi ⟨_, cs, rfl, h2, h3⟩
      obtain ⟨z, hz, rfl⟩ := item_list_some hi
      refine As_name ?_
      show EvE _ _ _ _ _ _
      walk_at "W"
      refine C_abs ?_
      walk_at "W"
      refine ⟨_, rfl, ⟨zs, rfl⟩, cs ++ [Int.fmod (if z < 0 then -z else z) 1000003], by rw [List.map_append]; rfl, by rw [List.length_append, h2]; rfl, fun c hc => ?_⟩
      rcases List.mem_append.mp hc with hc | hc
      · exact h3 c hc
      · rw [List.mem_singleton.mp hc]
        exact Int.fmod_nonneg (absnn z) (by decide)
    rintro acc m ⟨_, cs, rfl, hcl, hc0⟩ D hD
    rw [List.length_map] at hcl
    walk_at "W"
    refine D_cons ?_
    walk_at "W"
    refine D_nil fun T hT _ => ?_
    have hTD : D ≠ T := fun q => by rw [q, upd_self] at hT; cases hT
    have hTank : Tank (upd (upd m D (.list (cs.map .int))) T (.dict [("cells", .ref D), ("at", .dat (.int 0))])) T D 0 :=
      ⟨upd_self _ _ _, ⟨cs, by rw [upd_ne _ hTD, upd_self], hc0, by omega⟩, Ne.symm hTD, by decide⟩
    show EvS _ _ _ _ ⟨_, upd (upd m D (.list (cs.map .int))) T (.dict [("cells", .ref D), ("at", .dat (.int 0))])⟩ _
    generalize upd (upd m D (.list (cs.map .int))) T (.dict [("cells", .ref D), ("at", .dat (.int 0))]) = m0 at hTank ⊢
    walk_at "W"
    refine S_for (fun items i S' => ∃ a : Int, a ≤ 1 + 80 * i ∧ Tank S'.mu T D a ∧ S'.loc = ([("tank", .ref T), ("script", .ref la)] : List (Str × PV)) ∧ items.length ≤ 4) ?_
    refine Src_range (globN X (by rfl)) ?_
    walk_at "W"
    refine lot_ok X hTank (by decide) (by decide) fun j m1 j0 j1 hO1 hT1 => ?_
    walk_at "W"
    obtain ⟨k, rfl⟩ : ∃ k : Nat, j = k := ⟨j.toNat, by omega⟩
    refine ⟨1 + k, by rw [Int.natCast_add]; rfl, by omega, ⟨_, by omega, hT1, rfl, by rw [len_range_map]; omega⟩, ?_, ?_⟩
    · rintro i d ⟨loc, m2⟩ hi ⟨a, ha, hT2, rfl, hlen⟩
      have hT2 : Tank m2 T D a := hT2
      have hik := lt_of_get hi
      rw [len_range_map] at hik hlen
      walk_at "W"
      refine item_ok X hT2 (by omega) fun it b m3 hit hb hO3 hT3 => ?_
      obtain ⟨hseg, hl, hok, hwl, hparts, hnl⟩ := it_text hit
      have hfit := (It.fit hit).sh (by decide)
      have htx := it_strOk hit
      walk_at "W"
      refine item_text_ok X hit _ _ ?_
      walk_at "W"
      refine words_ok X hseg hl fun Dw Fw m4 hle hD0 hF0 hDF hDd hFd => ?_
      rw [W_it hit] at hFd
      have hrow : Row0 m4 Dw Fw it.ws := ⟨hDd, hFd, hwl, hDF, hok⟩
      have hT4 := hT3.le hle
      have hnT := hT3.neT hD0
      have hnD := hT3.neD hD0
      clear hDd hFd
      walk_at "W"
      refine read_item_ok X hit hrow fun m5 hO5 hR5 => ?_
      have hT5 := hT4.only hO5 (Ne.symm hnT) (Ne.symm hnD)
      walk_at "W"
      refine due_ok X hit _ _ ?_
      refine O_ne hfit hfit ⟨_, rfl, ite_f (by rw [SeqAt.eqv_refl _ (It.fit hit).can]; rfl) ?_⟩
      obtain ⟨p0, q1, q2, q3⟩ := hR5.ex
      have hp0 : p0.length ≤ 2000 := by rw [List.length_append] at q3; omega
      walk_at "W"
      refine B_list (d := .none) q2 (by omega) (by omega) (get_mid _ _ _) ?_
      walk_at "W"; walk_at "Q"
      walk_at "W"
      refine ite_f rfl ?_
      clear q1 q2
      refine S_nil ?_
      walk_at "W"
      refine ⟨Ty_str, ?_⟩
      walk_at "W"
      refine E_comp [] (fun items i acc m => items = (Txt.split (cat it.ps) (Str.ofString " ")).map .str ∧ acc = ((Txt.split (cat it.ps) (Str.ofString " ")).take i).map .str ∧ Tank m T D b) ?_
      refine Src_list ?_
      walk_at "W"
      refine ⟨Ty_str, ?_⟩
      walk_at "W"
      refine C_split (by rfl) (by rw [sizeLine_eq]; omega) fun B hB => ?_
      refine ⟨B, _, rfl, upd_self _ _ _, ?_⟩
      have hsl := split_le (cat it.ps) (Str.ofString " ")
      refine ⟨by rw [List.length_map, sizeLine_eq]; omega, ⟨rfl, rfl, ?_⟩, ?_, ?_, ?_⟩
      · rw [drop_self]
        exact hT5.drop (hT5.neT hB) (hT5.neD hB)
      · rintro i acc m ⟨_, rfl, _⟩
        rw [List.length_map]; exact List.length_take_le _ _
      · rintro i d acc m L hi ⟨hit2, rfl, hTm⟩
        obtain ⟨p, hp, rfl⟩ := item_list_some hi
        have hpm := List.mem_of_getElem? hp
        have hpo := split_strOk htx p hpm
        refine As_name ?_
        show EvT _ _ _ _ _ _
        walk_at "W"
        refine O_ne (by walk_at "sh") (by walk_at "sh") ⟨_, rfl, ite_t (eqv_ne ?_) ?_⟩
        · rw [spc_eq] at hpm
          rw [str_empty]; exact hparts p hpm
        walk_at "W"
        refine ⟨_, rfl, hit2, ?_, hTm⟩
        rw [take_succ hp, List.map_append]; rfl
      have hall : (Txt.split (cat it.ps) (Str.ofString " ")).take ((Txt.split (cat it.ps) (Str.ofString " ")).map PyData.str).length = Txt.split (cat it.ps) (Str.ofString " ") := by rw [List.length_map, List.take_length]
      rintro acc m6 ⟨_, rfl, hT6⟩ G hG
      rw [hall]
      walk_at "W"
      refine C_join (ys := Txt.split (cat it.ps) (Str.ofString " ")) (upd_self _ _ _) ?_ ?_
      · rw [spc_eq]
        have := split_join_len (cat it.ps)
        omega
      rw [show Txt.join (Str.ofString " ") (Txt.split (cat it.ps) (Str.ofString " ")) = cat it.ps by rw [spc_eq]; exact join_txt _]
      refine O_ne (by walk_at "sh") (by walk_at "sh") ⟨_, rfl, ite_f (by rw [eqv_str, beq_self_eq_true]; rfl) ?_⟩
      walk_at "W"
      refine O_in_str ⟨_, rfl, ite_f hnl ?_⟩
      walk_at "W"
      refine ite_f rfl ?_
      refine S_nil ?_
      refine S_nil ?_
      refine ⟨⟨[("tank", .ref T), ("script", .ref la)], _⟩, ⟨?_, fun _ _ e => e⟩, b, by omega, hT6.new hG, rfl, by rw [len_range_map]; exact hlen⟩
      walk_at "sub"
    · rintro ⟨loc, m2⟩ ⟨a, ha, hT2, rfl, hlen⟩
      walk_at "W"
      rfl
  · intro s' hk hg' ho'
    refine ⟨.inl ⟨_, _, [], rfl, raisesW_false ?_, .bool true, ?_, fun _ => ⟨List.nodup_nil, fun _ h => absurd h List.not_mem_nil⟩⟩, hk, ho', hg'.trans hg⟩
    · wrow_none_raised
    · wrow_post
end
end
end Mine
theorem PySem.Challenge.cw_rr0080_01_holds : PySem.Challenge.rw_rr0080_01.Holds := by
  exact Mine.law_holds
