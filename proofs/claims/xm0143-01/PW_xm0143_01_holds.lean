import PyProof.Rows.All
import Wide.All
import OpenK.AllK
import Wide.FinOn
import PySem.Challenge.RW_xm0143_01
open PySem PySem.W PyProof.Rows PySem.Calls
set_option Elab.async false
set_option maxRecDepth 100000
set_option autoImplicit false
set_option linter.unusedVariables false
set_option linter.unusedSimpArgs false
namespace Mine

/- plain values -/
inductive V where
  | none
  | bool (b : Bool)
  | int (i : Int)
  | li (l : List Int)
  | ll (ls : List (List Int))
  | ti (l : List Int)
  | tl (ls : List (List Int))
  | tri (x y : List Int) (n : Int)
  | di (l : List (Int × List Int))
  | pool (l : List Int) (k : Int)

def LenOk (n : Nat) : Prop := n ≤ 4096
theorem LenOk.line {n : Nat} (h : LenOk n) : n ≤ sizeLine := by unfold LenOk at h; rw [sizeLine_eq]; omega
theorem LenOk.fit {n : Nat} (h : LenOk n) : (n : Int) < 2 ^ 63 := by unfold LenOk at h; omega

def IntsAt (h : Heap) (B : List Addr) (l : List Int) (a : Addr) : Prop :=
  a ∉ B ∧ LenOk l.length ∧ ∃ vs : Array Value, h.IsList a vs ∧ IntsAre vs.toList l

inductive RowsAre (h : Heap) (B : List Addr) : List Value → List (List Int) → Prop
  | nil : RowsAre h B [] []
  | cons {a : Addr} {l : List Int} {vs : List Value} {ls : List (List Int)} (x : IntsAt h B l a) (r : RowsAre h B vs ls) : RowsAre h B (.ref a :: vs) (l :: ls)

/- a dict from ints to lists; the draws' pool -/
def DiAt (h : Heap) (B : List Addr) (l : List (Int × List Int)) (a : Addr) : Prop :=
  ∃ f, h.IntMap a f ∧ h.DictLe a l.length ∧ LenOk l.length ∧ ∀ k y, l.lookup k = some y → ∃ b, f k = some (.ref b) ∧ IntsAt h B y b
def PoolAt (h : Heap) (B : List Addr) (l : List Int) (k : Int) (a : Addr) : Prop := ∃ q t, h.IsList a #[.ref q, .int k t] ∧ IntsAt h B l q
theorem DiAt.move {h h' : Heap} {B B' : List Addr} {l : List (Int × List Int)} {a : Addr} (x : DiAt h B l a) (ka : ∀ o, h.get? a = some o → h'.get? a = some o) (ki : ∀ y b, IntsAt h B y b → IntsAt h' B' y b) : DiAt h' B' l a := by
  obtain ⟨f, ⟨o, es, ep, ho, r⟩, hz, hl, hd⟩ := x
  exact ⟨f, ⟨o, es, ep, ka o ho, r⟩, hz.of_same ho (ka o ho), hl, fun k y e => let ⟨b, e1, e2⟩ := hd k y e; ⟨b, e1, ki y b e2⟩⟩
theorem PoolAt.move {h h' : Heap} {B B' : List Addr} {l : List Int} {k : Int} {a : Addr} (x : PoolAt h B l k a) (ka : ∀ o, h.get? a = some o → h'.get? a = some o) (ki : ∀ y b, IntsAt h B y b → IntsAt h' B' y b) : PoolAt h' B' l k a :=
  let ⟨q, t, hp, hi⟩ := x; ⟨q, t, hp.at fun o e => ka o e, ki _ _ hi⟩
theorem DiAt.live {h : Heap} {B : List Addr} {l : List (Int × List Int)} {a : Addr} (x : DiAt h B l a) : ∃ o, h.get? a = some o := let ⟨_, ⟨o, _, _, ho, _⟩, _⟩ := x; ⟨o, ho⟩
theorem PoolAt.live {h : Heap} {B : List Addr} {l : List Int} {k : Int} {a : Addr} (x : PoolAt h B l k a) : ∃ o, h.get? a = some o := let ⟨_, _, ⟨o, ho, _⟩, _⟩ := x; ⟨o, ho⟩

/- what stands at an address -/
def Cont (h : Heap) (B : List Addr) : V → Addr → Prop
  | .li l, a => LenOk l.length ∧ ∃ vs : Array Value, h.IsList a vs ∧ IntsAre vs.toList l
  | .ll ls, a => LenOk ls.length ∧ ∃ vs : Array Value, h.PlainList a vs ∧ RowsAre h B vs.toList ls
  | .ti l, a => LenOk l.length ∧ ∃ vs : Array Value, IsTup h a vs ∧ IntsAre vs.toList l
  | .tl ls, a => LenOk ls.length ∧ ∃ vs : Array Value, IsTup h a vs ∧ RowsAre h B vs.toList ls
  | .tri x y n, a => ∃ p q t, IsTup h a #[.ref p, .ref q, .int n t] ∧ IntsAt h B x p ∧ IntsAt h B y q
  | .di l, a => DiAt h B l a
  | .pool l k, a => PoolAt h B l k a
  | _, _ => False

def Rep (h : Heap) (B : List Addr) : V → Value → Prop
  | .none, v => v = .none
  | .bool b, v => v = .bool b
  | .int i, v => ∃ t, v = .int i t
  | x, v => ∃ a, v = .ref a ∧ a ∉ B ∧ Cont h B x a

def RepL (h : Heap) (B : List Addr) : List V → List Value → Prop
  | [], [] => True
  | v :: vs, x :: xs => Rep h B v x ∧ RepL h B vs xs
  | _, _ => False

section
variable {h h' : Heap} {B B' : List Addr}

def Off (B : List Addr) (h h' : Heap) : Prop := ∀ b o, b ∉ B → h.get? b = some o → h'.get? b = some o

theorem isList_new (h : Heap) (vs : Array Value) : (h.push { cls := .type "list", data := .seq vs }).IsList h.objs.size vs := ⟨_, Heap.get?_push_size _ rfl, rfl, 0, rfl⟩
theorem plain_new (h : Heap) (vs : Array Value) : (h.push { cls := .type "list", data := .seq vs }).PlainList h.objs.size vs := ⟨0, Heap.get?_push_size _ rfl⟩
theorem isTup_new (h : Heap) (vs : Array Value) : IsTup (h.push { cls := .type "tuple", data := .seq vs }) h.objs.size vs := ⟨_, Heap.get?_push_size _ rfl, rfl, 0, rfl⟩
theorem isTup_at {a : Addr} {vs : Array Value} (x : IsTup h a vs) (k : ∀ o, h.get? a = some o → h'.get? a = some o) : IsTup h' a vs :=
  let ⟨o, ho, r⟩ := x; ⟨o, k o ho, r⟩

theorem IntsAt.off {l : List Int} {a : Addr} (x : IntsAt h B l a) (k : Off B h h') : IntsAt h' B l a :=
  let ⟨hb, hl, vs, hp, hi⟩ := x; ⟨hb, hl, vs, hp.at fun o e => k a o hb e, hi⟩
theorem RowsAre.off (k : Off B h h') : ∀ {vs : List Value} {ls : List (List Int)}, RowsAre h B vs ls → RowsAre h' B vs ls
  | _, _, .nil => .nil
  | _, _, .cons x r => .cons (x.off k) (r.off k)
theorem Cont.off {v : V} {a : Addr} (x : Cont h B v a) (hb : a ∉ B) (k : Off B h h') : Cont h' B v a := by
  cases v with
  | li l => exact let ⟨hl, vs, hp, hi⟩ := x; ⟨hl, vs, hp.at fun o e => k a o hb e, hi⟩
  | ll ls => exact let ⟨hl, vs, hp, hi⟩ := x; ⟨hl, vs, hp.at fun o e => k a o hb e, hi.off k⟩
  | ti l => exact let ⟨hl, vs, hp, hi⟩ := x; ⟨hl, vs, isTup_at hp fun o e => k a o hb e, hi⟩
  | tl ls => exact let ⟨hl, vs, hp, hi⟩ := x; ⟨hl, vs, isTup_at hp fun o e => k a o hb e, hi.off k⟩
  | tri u v n => exact let ⟨p, q, t, hp, h1, h2⟩ := x; ⟨p, q, t, isTup_at hp fun o e => k a o hb e, h1.off k, h2.off k⟩
  | di l => exact DiAt.move x (fun o e => k a o hb e) fun _ _ y => y.off k
  | pool l n => exact PoolAt.move x (fun o e => k a o hb e) fun _ _ y => y.off k
  | none => exact x.elim
  | bool b => exact x.elim
  | int i => exact x.elim
theorem Rep.off {v : V} {x : Value} (r : Rep h B v x) (k : Off B h h') : Rep h' B v x := by
  cases v with
  | none => exact r
  | bool b => exact r
  | int i => exact r
  | _ => exact let ⟨a, e, hb, c⟩ := r; ⟨a, e, hb, Cont.off c hb k⟩
theorem RepL.off (k : Off B h h') : ∀ {vs : List V} {xs : List Value}, RepL h B vs xs → RepL h' B vs xs
  | [], [], _ => trivial
  | _ :: _, _ :: _, r => ⟨r.1.off k, RepL.off k r.2⟩
  | [], _ :: _, r => r.elim
  | _ :: _, [], r => r.elim

theorem IntsAt.sub {l : List Int} {a : Addr} (x : IntsAt h B l a) (k : ∀ b ∈ B', b ∈ B) : IntsAt h B' l a := ⟨fun e => x.1 (k _ e), x.2⟩
theorem RowsAre.sub (k : ∀ b ∈ B', b ∈ B) : ∀ {vs : List Value} {ls : List (List Int)}, RowsAre h B vs ls → RowsAre h B' vs ls
  | _, _, .nil => .nil
  | _, _, .cons x r => .cons (x.sub k) (r.sub k)
theorem Cont.sub {v : V} {a : Addr} (x : Cont h B v a) (k : ∀ b ∈ B', b ∈ B) : Cont h B' v a := by
  cases v with
  | li l => exact x
  | ll ls => exact let ⟨hl, vs, hp, hi⟩ := x; ⟨hl, vs, hp, hi.sub k⟩
  | ti l => exact x
  | tl ls => exact let ⟨hl, vs, hp, hi⟩ := x; ⟨hl, vs, hp, hi.sub k⟩
  | tri u v n => exact let ⟨p, q, t, hp, h1, h2⟩ := x; ⟨p, q, t, hp, h1.sub k, h2.sub k⟩
  | di l => exact DiAt.move x (fun o e => e) fun _ _ y => y.sub k
  | pool l n => exact PoolAt.move x (fun o e => e) fun _ _ y => y.sub k
  | none => exact x.elim
  | bool b => exact x.elim
  | int i => exact x.elim
theorem Rep.sub {v : V} {x : Value} (r : Rep h B v x) (k : ∀ b ∈ B', b ∈ B) : Rep h B' v x := by
  cases v with
  | none => exact r
  | bool b => exact r
  | int i => exact r
  | _ => exact let ⟨a, e, hb, c⟩ := r; ⟨a, e, fun e' => hb (k _ e'), Cont.sub c k⟩
theorem RepL.sub (k : ∀ b ∈ B', b ∈ B) : ∀ {vs : List V} {xs : List Value}, RepL h B vs xs → RepL h B' vs xs
  | [], [], _ => trivial
  | _ :: _, _ :: _, r => ⟨r.1.sub k, RepL.sub k r.2⟩
  | [], _ :: _, r => r.elim
  | _ :: _, [], r => r.elim
end

section
variable {s s' s'' : Shared}
theorem Kp.refl (s : Shared) : Keeps s s := ⟨s.heap, s.toks, rfl, fun _ _ e => e⟩
theorem Kp.tr (a : Keeps s s') (b : Keeps s' s'') : Keeps s s'' := by
  obtain ⟨h, t, rfl, k⟩ := a
  obtain ⟨h', t', rfl, k'⟩ := b
  exact ⟨h', t', rfl, fun b o e => k' b o (k b o e)⟩
theorem Kp.tok (s : Shared) (t : Nat) : Keeps s { s with toks := t } := ⟨s.heap, t, rfl, fun _ _ e => e⟩
theorem Kp.heap {h' : Heap} {t : Nat} (k : ∀ b o, s.heap.get? b = some o → h'.get? b = some o) : Keeps s { s with heap := h', toks := t } := ⟨h', t, rfl, k⟩
theorem Kp.get (a : Keeps s s') {b : Addr} {o : Obj} (e : s.heap.get? b = some o) : s'.heap.get? b = some o := by
  obtain ⟨h, t, rfl, k⟩ := a
  exact k b o e
theorem Kp.off (a : Keeps s s') (B : List Addr) : Off B s.heap s'.heap := fun _ _ _ e => Kp.get a e
end

/- the text's defs -/
def theFn (i : Nat) : Stmt := (PySem.Challenge.pw_xm0143_01.main.body[i]?).getD (.Pass ⟨0, 0, 0, 0⟩)
def bodyOf : Stmt → List Stmt
  | .FunctionDef _ _ b _ _ _ _ _ _ _ => b
  | _ => []
def scopeOf : Stmt → Scope
  | .FunctionDef _ _ _ _ _ _ sc _ _ _ => sc
  | _ => default
def nameOf : Stmt → Str
  | .FunctionDef n _ _ _ _ _ _ _ _ _ => n
  | _ => default
def argsOf : Stmt → Arguments
  | .FunctionDef _ a _ _ _ _ _ _ _ _ => a
  | _ => default

structure Cx where
  prog : Program
  w : World
  mg : Str → Option Value
  mb : Str → Option Value

def FnAt (mg : Str → Option Value) (h : Heap) (st : Stmt) : Prop :=
  ∃ a o pm code doc, mg (nameOf st) = some (.ref a) ∧ h.get? a = some o ∧ o.data = .func (docDef (nameOf st) (argsOf st) (bodyOf st) (scopeOf st) pm code doc) ∧ h.CodeRec code (nameOf st)

def bnames : List Str := ["len", "abs", "max", "range", "list", "reversed", "enumerate", "isinstance", "int", "str"]

structure Cx.Base (c : Cx) (h : Heap) : Prop where
  g : h.Ns mainGlobals c.mg
  b : h.Ns builtinsNs c.mb
  lim : h.NoLimit
  boot : ∀ x : Str, x ≠ "__name__" → c.mb x = bootBuiltins x
  free : ∀ x ∈ bnames, c.mg x = none
  fn : ∀ i, 3 ≤ i → i < 60 → (∃ n a b d r t sc ts bi p, theFn i = .FunctionDef n a b d r t sc ts bi p) → FnAt c.mg h (theFn i)

theorem Cx.Base.keeps {c : Cx} {h h' : Heap} (b : c.Base h) (k : ∀ a o, h.get? a = some o → h'.get? a = some o) : c.Base h' :=
  ⟨b.g.keeps k, b.b.keeps k, b.lim.keeps k, b.boot, b.free, fun i h1 h2 h3 => let ⟨a, o, pm, code, doc, e1, e2, e3, e4⟩ := b.fn i h1 h2 h3; ⟨a, o, pm, code, doc, e1, k _ _ e2, e3, e4.keeps k⟩⟩

def Room (A : Around) (n : Nat) : Prop := A.handled = none ∧ A.depth + n + 400 < recursionLimit ∧ A.units + 8 * n + 100 < cLine
theorem Room.mono {A : Around} {n m : Nat} (r : Room A n) (h : m ≤ n) : Room A m := ⟨r.1, by have := r.2.1; omega, by have := r.2.2; omega⟩
theorem Room.deeper {A : Around} {n : Nat} (r : Room A (n + 1)) (env : Env) : Room (A.deeper env) n :=
  ⟨r.1, by have := r.2.1; show A.depth + 1 + n + 400 < _; omega, by have := r.2.2; show A.units + 3 + 8 * n + 100 < _; omega⟩
theorem Room.in1 {A : Around} {n : Nat} (r : Room A (n + 1)) : Room A.in1 n :=
  ⟨r.1, by have := r.2.1; show A.depth + n + 400 < _; omega, by have := r.2.2; show A.units + 1 + 8 * n + 100 < _; omega⟩

/- what a def answers -/
def Spec (c : Cx) (st : Stmt) (args : List V) (r : V) (n : Nat) : Prop :=
  ∀ (A : Around) (B : List Addr) (s : Shared) (E Q : Value → Shared → Prop) (f : Addr) (vals : List Value), c.mg (nameOf st) = some (.ref f) → Room A n → c.Base s.heap → (∀ b ∈ B, ∃ o, s.heap.get? b = some o) →
    RepL s.heap B args vals → (∀ val s', Keeps s s' → Rep s'.heap B r val → Q val s') → wpAny (model c.prog c.w) A (call (.ref f) vals) Q E s

/- names in a frame -/
def Rd (env : Env) (h : Heap) (x : Str) (val : Value) : Prop :=
  (env.kindOf x = some .local ∧ ∃ m, h.Ns env.locals m ∧ m x = some val) ∨ (env.kindOf x = some .cell ∧ ∃ k, env.cells.lookup x = some k ∧ h.IsCell k (some val))
theorem Rd.keeps {env : Env} {h h' : Heap} {x : Str} {val : Value} (r : Rd env h x val) (k : ∀ a o, h.get? a = some o → h'.get? a = some o) : Rd env h' x val := by
  rcases r with ⟨e, m, hn, hm⟩ | ⟨e, q, hq, hc⟩
  · exact .inl ⟨e, m, hn.keeps k, hm⟩
  · exact .inr ⟨e, q, hq, hc.keeps k⟩

abbrev Rho := List (Str × V)
structure D where
  ρ : Rho
  own : Option (Str × Addr × V) := none

structure Pre (c : Cx) (env : Env) (d : D) (B : List Addr) (s : Shared) : Prop where
  ek : env.scope.kind = .function
  eg : env.globals = mainGlobals
  eb : env.builtins = builtinsNs
  base : c.Base s.heap
  live : ∀ b ∈ B, ∃ o, s.heap.get? b = some o
  vw : ∀ x v, d.ρ.lookup x = some v → ∃ val, Rd env s.heap x val ∧ Rep s.heap B v val
  ow : ∀ x a v, d.own = some (x, a, v) → Rd env s.heap x (.ref a) ∧ Cont s.heap B v a

theorem Cont.keeps {h h' : Heap} {B : List Addr} {v : V} {a : Addr} (x : Cont h B v a) (k : ∀ a o, h.get? a = some o → h'.get? a = some o) : Cont h' B v a := by
  have K : Off B h h' := fun b o _ e => k b o e
  cases v with
  | li l => exact let ⟨hl, vs, hp, hi⟩ := x; ⟨hl, vs, hp.at fun o e => k a o e, hi⟩
  | ll ls => exact let ⟨hl, vs, hp, hi⟩ := x; ⟨hl, vs, hp.at fun o e => k a o e, hi.off K⟩
  | ti l => exact let ⟨hl, vs, hp, hi⟩ := x; ⟨hl, vs, isTup_at hp fun o e => k a o e, hi⟩
  | tl ls => exact let ⟨hl, vs, hp, hi⟩ := x; ⟨hl, vs, isTup_at hp fun o e => k a o e, hi.off K⟩
  | tri u v n => exact let ⟨p, q, t, hp, h1, h2⟩ := x; ⟨p, q, t, isTup_at hp fun o e => k a o e, h1.off K, h2.off K⟩
  | di l => exact DiAt.move x (fun o e => k a o e) fun _ _ y => y.off K
  | pool l n => exact PoolAt.move x (fun o e => k a o e) fun _ _ y => y.off K
  | none => exact x.elim
  | bool b => exact x.elim
  | int i => exact x.elim

theorem Pre.keeps {c : Cx} {env : Env} {d : D} {B : List Addr} {s s' : Shared} (p : Pre c env d B s) (k : Keeps s s') : Pre c env d B s' where
  ek := p.ek
  eg := p.eg
  eb := p.eb
  base := p.base.keeps fun _ _ e => Kp.get k e
  live := fun b hb => let ⟨o, e⟩ := p.live b hb; ⟨o, Kp.get k e⟩
  vw := fun x v e => let ⟨val, r, q⟩ := p.vw x v e; ⟨val, r.keeps fun _ _ e => Kp.get k e, q.off (Kp.off k B)⟩
  ow := fun x a v e => let ⟨r, q⟩ := p.ow x a v e; ⟨r.keeps fun _ _ e => Kp.get k e, q.keeps fun _ _ e => Kp.get k e⟩

theorem Pre.fresh {c : Cx} {env : Env} {d : D} {B : List Addr} {s : Shared} (p : Pre c env d B s) {a : Addr} (h : s.heap.get? a = none) : a ∉ B := fun hb => by
  obtain ⟨o, e⟩ := p.live a hb; rw [h] at e; cases e
theorem get_size {h : Heap} : h.get? h.objs.size = none := by
  cases e : h.get? h.objs.size with
  | none => rfl
  | some o => exact absurd (Heap.lt_size e) (Nat.lt_irrefl _)

def Ev (c : Cx) (A : Around) (env : Env) (d : D) (B : List Addr) (e : Expr) (v : V) : Prop :=
  ∀ (s : Shared) (E Q : Value → Shared → Prop), Pre c env d B s → (∀ val s', Keeps s s' → Rep s'.heap B v val → Q val s') → wpAny (model c.prog c.w) A (eval e env) Q E s
def Tr (c : Cx) (A : Around) (env : Env) (d : D) (B : List Addr) (e : Expr) (b : Bool) : Prop :=
  ∀ (s : Shared) (E : Value → Shared → Prop) (Q : Bool → Shared → Prop), Pre c env d B s → (∀ s', Keeps s s' → Q b s') → wpAny (model c.prog c.w) A (PySem.isTrue e env (eval e env)) Q E s
def EvL (c : Cx) (A : Around) (env : Env) (d : D) (B : List Addr) (es : List Expr) (vs : List V) : Prop :=
  ∀ (s : Shared) (E : Value → Shared → Prop) (Q : List Value → Shared → Prop) (pos : Pos), Pre c env d B s → (∀ vals s', Keeps s s' → RepL s'.heap B vs vals → Q vals s') → wpAny (model c.prog c.w) A (spliced (backTo pos (starEach es env))) Q E s

section
variable {c : Cx} {A : Around} {env : Env} {d : D} {B : List Addr} {pos p : Pos}

theorem evl_nil : EvL c A env d B [] [] := fun s E Q pos P hQ => spliced_nil (hQ [] s (Kp.refl s) trivial)
theorem evl_cons {e : Expr} {es : List Expr} {v : V} {vs : List V} (h : Ev c A env d B e v) (hr : EvL c A env d B es vs) (hs : starEach (e :: es) env = (false, eval e env) :: starEach es env := by rfl) : EvL c A env d B (e :: es) (v :: vs) := by
  intro s E Q pos P hQ
  show wpAny _ _ (spliced (backTo pos (starEach (e :: es) env))) _ _ _
  rw [hs]
  show wpAny _ _ (spliced ((false, eval e env) :: backTo pos (starEach es env))) _ _ _
  refine spliced_cons (h s _ _ P fun val s₁ k₁ r₁ => hr s₁ _ _ pos (P.keeps k₁) fun vals s₂ k₂ r₂ => ?_)
  exact hQ _ _ (Kp.tr k₁ k₂) ⟨r₁.off (Kp.off k₂ B), r₂⟩

theorem ev_name {x : Str} {v : V} (hx : d.ρ.lookup x = some v) (hd : (x == ("__debug__" : Str)) = false := by rfl) : Ev c A env d B (.Name x p) v := by
  intro s E Q P hQ
  obtain ⟨val, r, q⟩ := P.vw x v hx
  have hq := hQ val s (Kp.refl s) q
  rcases r with ⟨e, m, hn, hm⟩ | ⟨e, k, hk, hc⟩
  · exact wpAny_Name (wpAny_loadName_local P.ek e hn hm hq) hd
  · exact wpAny_Name (wpAny_loadName_cell P.ek e hk hc hq) hd

theorem ev_int {i : Int} {k : Nat} : Ev c A env d B (.Constant (.int i) k p) (.int i) := fun s _ _ _ hQ =>
  wpAny_Constant_int (hQ _ _ (Kp.tok s _) ⟨_, rfl⟩)
theorem ev_none {k : Nat} : Ev c A env d B (.Constant .none k p) .none := fun s _ _ _ hQ => fun _ _ _ => hQ _ _ (Kp.refl s) rfl
theorem ev_bool {b : Bool} {k : Nat} : Ev c A env d B (.Constant (.bool b) k p) (.bool b) := fun s _ _ _ hQ => fun _ _ _ => hQ _ _ (Kp.refl s) rfl

/- two li -/
theorem ev_bin {l r : Expr} {op : Operator} {a b x : Int} (h1 : Ev c A env d B l (.int a)) (h2 : Ev c A env d B r (.int b))
    (h : ∀ (s : Shared) (t u : Tok) (E Q : Value → Shared → Prop), c.Base s.heap → Q (.int x s.toks) { s with toks := s.toks + 1 } → wpAny (model c.prog c.w) A (binaryOp op (.int a t) (.int b u)) Q E s) : Ev c A env d B (.BinOp l op r p) (.int x) := by
  intro s E Q P hQ
  refine wpAny_BinOp (h1 s _ _ P fun va s₁ k₁ r₁ => h2 s₁ _ _ (P.keeps k₁) fun vb s₂ k₂ r₂ => ?_)
  obtain ⟨t, rfl⟩ := r₁
  obtain ⟨u, rfl⟩ := r₂
  exact h s₂ t u E Q (((P.keeps k₁).keeps k₂).base) (hQ _ _ (Kp.tr k₁ (Kp.tr k₂ (Kp.tok _ _))) ⟨_, rfl⟩)
theorem ev_add {l r : Expr} {a b : Int} (h1 : Ev c A env d B l (.int a)) (h2 : Ev c A env d B r (.int b)) : Ev c A env d B (.BinOp l .Add r p) (.int (a + b)) :=
  ev_bin h1 h2 fun _ _ _ _ _ _ h => add_int h
theorem ev_sub {l r : Expr} {a b : Int} (h1 : Ev c A env d B l (.int a)) (h2 : Ev c A env d B r (.int b)) : Ev c A env d B (.BinOp l .Sub r p) (.int (a - b)) :=
  ev_bin h1 h2 fun _ _ _ _ _ _ h => sub_int h
theorem ev_mul {l r : Expr} {a b : Int} (h1 : Ev c A env d B l (.int a)) (h2 : Ev c A env d B r (.int b)) (hm : IntMulOk a b) : Ev c A env d B (.BinOp l .Mult r p) (.int (a * b)) :=
  ev_bin h1 h2 fun _ _ _ _ _ _ h => mul_int h hm
theorem ev_mod {l r : Expr} {a b : Int} (h1 : Ev c A env d B l (.int a)) (h2 : Ev c A env d B r (.int b)) (hb : b ≠ 0) : Ev c A env d B (.BinOp l .Mod r p) (.int (a.fmod b)) :=
  ev_bin h1 h2 fun _ _ _ _ _ _ h => mod_int' hb h
def Sm (x : Int) : Prop := x.natAbs < 2 ^ 64
theorem Sm.mul_left {a b : Int} (h : Sm a) : IntMulOk a b := .of_left (intBits_le_64 (by unfold Sm at h; omega) (by unfold Sm at h; omega))
theorem Sm.mul_right {a b : Int} (h : Sm b) : IntMulOk a b := .of_right (intBits_le_64 (by unfold Sm at h; omega) (by unfold Sm at h; omega))
theorem Sm.noPy {a b : Int} (h : Sm b) : Builtin.divisionGoesByPylong a b = false := PyProof.noPylong_of_log2 (by
  rcases Nat.eq_zero_or_pos b.natAbs with h0 | hp
  · rw [h0]; decide
  · exact Nat.lt_trans ((Nat.log2_lt (Nat.ne_of_gt hp)).mpr h) (by decide))
theorem ev_fdiv {l r : Expr} {a b : Int} (h1 : Ev c A env d B l (.int a)) (h2 : Ev c A env d B r (.int b)) (hb : b ≠ 0) (hs : Sm b) : Ev c A env d B (.BinOp l .FloorDiv r p) (.int (a.fdiv b)) :=
  ev_bin h1 h2 fun _ _ _ _ _ _ h => floordiv_int hb h (.inl hs.noPy)
theorem ev_pow {l r : Expr} {a b : Int} (h1 : Ev c A env d B l (.int a)) (h2 : Ev c A env d B r (.int b)) (hb : 0 ≤ b) (hz : (Builtin.Int.intBits a : Int) * b ≤ 2 ^ 27) : Ev c A env d B (.BinOp l .Pow r p) (.int (a ^ b.toNat)) :=
  ev_bin h1 h2 fun _ _ _ _ _ _ h => pow_int hb hz h
theorem ev_neg {e : Expr} {a : Int} (h1 : Ev c A env d B e (.int a)) : Ev c A env d B (.UnaryOp .USub e p) (.int (-a)) := by
  intro s E Q P hQ
  refine wpAny_UnaryOp (h1 s _ _ P fun va s₁ k₁ r₁ => ?_)
  obtain ⟨t, rfl⟩ := r₁
  exact neg_int (hQ _ _ (Kp.tr k₁ (Kp.tok _ _)) ⟨_, rfl⟩)
end

end Mine
namespace Mine

section
variable {c : Cx} {A : Around} {env : Env} {d : D} {B : List Addr} {pos p : Pos}

/- comparisons of ints -/
theorem ev_cmp {l r : Expr} {op : CmpOp} {a b : Int} {x : Bool} (h1 : Ev c A env d B l (.int a)) (h2 : Ev c A env d B r (.int b))
    (h : ∀ (s : Shared) (t u : Tok) (E Q : Value → Shared → Prop), Q (.bool x) s → wpAny (model c.prog c.w) A (compareOp op (.int a t) (.int b u)) Q E s) (hm : behindInMarks op r = false) : Ev c A env d B (.Compare l [op] [r] p) (.bool x) := by
  intro s E Q P hQ
  refine wpAny_Compare1 (h1 s _ _ P fun va s₁ k₁ r₁ => h2 s₁ _ _ (P.keeps k₁) fun vb s₂ k₂ r₂ => ?_) hm
  obtain ⟨t, rfl⟩ := r₁
  obtain ⟨u, rfl⟩ := r₂
  exact h s₂ t u E Q (hQ _ _ (Kp.tr k₁ k₂) rfl)
theorem ev_eq {l r : Expr} {a b : Int} (h1 : Ev c A env d B l (.int a)) (h2 : Ev c A env d B r (.int b)) (hm : behindInMarks .Eq r = false := by with_unfolding_all rfl) : Ev c A env d B (.Compare l [.Eq] [r] p) (.bool (a == b)) := ev_cmp h1 h2 (fun _ _ _ _ _ h => eq_int h) hm
theorem ev_ne {l r : Expr} {a b : Int} (h1 : Ev c A env d B l (.int a)) (h2 : Ev c A env d B r (.int b)) (hm : behindInMarks .NotEq r = false := by with_unfolding_all rfl) : Ev c A env d B (.Compare l [.NotEq] [r] p) (.bool (a != b)) := ev_cmp h1 h2 (fun _ _ _ _ _ h => ne_int h) hm
theorem ev_lt {l r : Expr} {a b : Int} (h1 : Ev c A env d B l (.int a)) (h2 : Ev c A env d B r (.int b)) (hm : behindInMarks .Lt r = false := by with_unfolding_all rfl) : Ev c A env d B (.Compare l [.Lt] [r] p) (.bool (decide (a < b))) := ev_cmp h1 h2 (fun _ _ _ _ _ h => lt_int h) hm
theorem ev_gt {l r : Expr} {a b : Int} (h1 : Ev c A env d B l (.int a)) (h2 : Ev c A env d B r (.int b)) (hm : behindInMarks .Gt r = false := by with_unfolding_all rfl) : Ev c A env d B (.Compare l [.Gt] [r] p) (.bool (decide (b < a))) := ev_cmp h1 h2 (fun _ _ _ _ _ h => PyProof.Rows.gt_int h) hm
theorem ev_le {l r : Expr} {a b : Int} (h1 : Ev c A env d B l (.int a)) (h2 : Ev c A env d B r (.int b)) (hm : behindInMarks .LtE r = false := by with_unfolding_all rfl) : Ev c A env d B (.Compare l [.LtE] [r] p) (.bool (decide (a ≤ b))) := ev_cmp h1 h2 (fun _ _ _ _ _ h => PyProof.Rows.le_int h) hm
theorem ev_ge {l r : Expr} {a b : Int} (h1 : Ev c A env d B l (.int a)) (h2 : Ev c A env d B r (.int b)) (hm : behindInMarks .GtE r = false := by with_unfolding_all rfl) : Ev c A env d B (.Compare l [.GtE] [r] p) (.bool (decide (b ≤ a))) := ev_cmp h1 h2 (fun _ _ _ _ _ h => PyProof.Rows.ge_int h) hm

/- two lists of ints compared -/
theorem plain_toArray {h : Heap} {a : Addr} {vs : Array Value} (x : h.IsList a vs) : h.IsList a vs.toList.toArray := by
  simpa using x
theorem ev_eq_li {n : Nat} (hR : Room A n) {l r : Expr} {x y : List Int} (h1 : Ev c A env d B l (.li x)) (h2 : Ev c A env d B r (.li y)) (hm : behindInMarks .Eq r = false := by with_unfolding_all rfl) : Ev c A env d B (.Compare l [.Eq] [r] p) (.bool (decide (x = y))) := by
  intro s E Q P hQ
  refine wpAny_Compare1 (h1 s _ _ P fun va s₁ k₁ r₁ => h2 s₁ _ _ (P.keeps k₁) fun vb s₂ k₂ r₂ => ?_) hm
  obtain ⟨a, rfl, _, _, vs, hp, hi⟩ := r₁.off (Kp.off k₂ B)
  obtain ⟨b, rfl, _, _, ws, hq, hj⟩ := r₂
  exact eq_intsK (plain_toArray hp) hi (plain_toArray hq) hj (by have := hR.2.2; omega) (hQ _ _ (Kp.tr k₁ k₂) rfl)
theorem ev_ne_li {n : Nat} (hR : Room A n) {l r : Expr} {x y : List Int} (h1 : Ev c A env d B l (.li x)) (h2 : Ev c A env d B r (.li y)) (hm : behindInMarks .NotEq r = false := by with_unfolding_all rfl) : Ev c A env d B (.Compare l [.NotEq] [r] p) (.bool (!decide (x = y))) := by
  intro s E Q P hQ
  refine wpAny_Compare1 (h1 s _ _ P fun va s₁ k₁ r₁ => h2 s₁ _ _ (P.keeps k₁) fun vb s₂ k₂ r₂ => ?_) hm
  obtain ⟨a, rfl, _, _, vs, hp, hi⟩ := r₁.off (Kp.off k₂ B)
  obtain ⟨b, rfl, _, _, ws, hq, hj⟩ := r₂
  exact ne_intsK (plain_toArray hp) hi (plain_toArray hq) hj (by have := hR.2.2; omega) (hQ _ _ (Kp.tr k₁ k₂) rfl)
theorem ev_eq_bool {l r : Expr} {x y : Bool} (h1 : Ev c A env d B l (.bool x)) (h2 : Ev c A env d B r (.bool y)) (hm : behindInMarks .Eq r = false := by with_unfolding_all rfl) : Ev c A env d B (.Compare l [.Eq] [r] p) (.bool (x == y)) := by
  intro s E Q P hQ
  refine wpAny_Compare1 (h1 s _ _ P fun va s₁ k₁ r₁ => h2 s₁ _ _ (P.keeps k₁) fun vb s₂ k₂ r₂ => ?_) hm
  obtain rfl := r₁
  obtain rfl := r₂
  exact eq_bool (hQ _ _ (Kp.tr k₁ k₂) rfl)
theorem ev_notnone_li {l : Expr} {k : Nat} {q : Pos} {x : List Int} (h1 : Ev c A env d B l (.li x)) : Ev c A env d B (.Compare l [.IsNot] [.Constant .none k q] p) (.bool true) := by
  intro s E Q P hQ
  refine wpAny_Compare1 (h1 s _ _ P fun va s₁ k₁ r₁ => ev_none s₁ _ _ (P.keeps k₁) fun vb s₂ k₂ r₂ => ?_) (by with_unfolding_all rfl)
  obtain ⟨a, rfl, _⟩ := r₁
  obtain rfl := r₂
  exact wpAny_isNot_other rfl (fun e => nomatch e) (hQ _ _ (Kp.tr k₁ k₂) rfl)
theorem ev_notnone_none {l : Expr} {k : Nat} {q : Pos} (h1 : Ev c A env d B l .none) : Ev c A env d B (.Compare l [.IsNot] [.Constant .none k q] p) (.bool false) := by
  intro s E Q P hQ
  refine wpAny_Compare1 (h1 s _ _ P fun va s₁ k₁ r₁ => ev_none s₁ _ _ (P.keeps k₁) fun vb s₂ k₂ r₂ => ?_) (by with_unfolding_all rfl)
  obtain rfl := r₁
  obtain rfl := r₂
  exact wpAny_isNot_self rfl (hQ _ _ (Kp.tr k₁ k₂) rfl)
theorem ev_sub_bool {l r : Expr} {x y : Bool} (h1 : Ev c A env d B l (.bool x)) (h2 : Ev c A env d B r (.bool y)) : Ev c A env d B (.BinOp l .Sub r p) (.int ((if x then 1 else 0) - (if y then 1 else 0))) := by
  intro s E Q P hQ
  refine wpAny_BinOp (h1 s _ _ P fun va s₁ k₁ r₁ => h2 s₁ _ _ (P.keeps k₁) fun vb s₂ k₂ r₂ => ?_)
  obtain rfl := r₁
  obtain rfl := r₂
  exact PyProof.Rows.sub_bool (hQ _ _ (Kp.tr k₁ (Kp.tr k₂ (Kp.tok _ _))) ⟨_, rfl⟩)

/- truth -/
theorem tr_bool {e : Expr} {b : Bool} (h : Ev c A env d B e (.bool b)) (he : ∀ w : Sem Value, PySem.isTrue e env w = (do let v ← w; standAt e.pos; holding [v] (truthy v)) := by intro _; rfl) : Tr c A env d B e b := by
  intro s E Q P hQ
  refine isTrue_plain (h s _ _ P fun v s₁ k₁ r₁ => ?_) (he _)
  obtain rfl := r₁
  exact wpAny_truthy_bool (hQ _ k₁)
theorem tr_cmp {l r : Expr} {op : CmpOp} {b : Bool} (h : Ev c A env d B (.Compare l [op] [r] p) (.bool b)) (hm : behindInMarks op r = false := by with_unfolding_all rfl) : Tr c A env d B (.Compare l [op] [r] p) b := by
  intro s E Q P hQ
  have key : wpAny (model c.prog c.w) A (eval (.Compare l [op] [r] p) env) (fun v s₁ => wpAny (model c.prog c.w) A (truthy v) Q E s₁) E s := h s _ _ P fun v s₁ k₁ r₁ => by
    obtain rfl := r₁
    exact wpAny_truthy_bool (hQ _ k₁)
  intro Γ q hΓ
  have k := key Γ q hΓ
  rw [eval_Compare1, markedBehindIn_of_false hm] at k
  rw [isTrue_Compare1, markedBehindIn_of_false hm]
  simp only [Sem.wp_bind', Sem.wp_holding, Sem.wp_cmd_standAt, Sem.wp_operate] at k ⊢
  exact Sem.wp_mono _ Γ _ (fun a p₁ s₁ h₁ => Sem.wp_mono _ Γ _ (fun b _ s₂ h₂ => Sem.wp_mono _ Γ _ (fun c p₃ s₃ h₃ => h₃ Γ p₃ hΓ) (fun _ _ _ h' => h') _ _ h₂) (fun _ _ _ h' => h') _ _ h₁) (fun _ _ _ h' => h') _ _ k
theorem tr_and2 {x y : Expr} {a b : Bool} (h1 : Tr c A env d B x a) (h2 : a = true → Tr c A env d B y b) : Tr c A env d B (.BoolOp .And [x, y] p) (a && b) := by
  intro s E Q P hQ
  refine isTrue_and (h1 s _ _ P fun s₁ k₁ => ?_)
  cases a with
  | false => exact hQ s₁ k₁
  | true =>
    rw [if_pos rfl]
    refine isTrue_and (h2 rfl s₁ _ _ (P.keeps k₁) fun s₂ k₂ => ?_)
    cases b with
    | false => exact hQ _ (Kp.tr k₁ k₂)
    | true => rw [if_pos rfl]; exact isTrue_and_nil (hQ _ (Kp.tr k₁ k₂))
theorem tr_or2 {x y : Expr} {a b : Bool} (h1 : Tr c A env d B x a) (h2 : a = false → Tr c A env d B y b) : Tr c A env d B (.BoolOp .Or [x, y] p) (a || b) := by
  intro s E Q P hQ
  refine isTrue_or (h1 s _ _ P fun s₁ k₁ => ?_)
  cases a with
  | true => exact hQ s₁ k₁
  | false =>
    rw [if_neg Bool.false_ne_true]
    refine isTrue_or (h2 rfl s₁ _ _ (P.keeps k₁) fun s₂ k₂ => ?_)
    cases b with
    | true => exact hQ _ (Kp.tr k₁ k₂)
    | false => rw [if_neg Bool.false_ne_true]; exact isTrue_or_nil (hQ _ (Kp.tr k₁ k₂))
theorem tr_or3 {x y z : Expr} {a b e : Bool} (h1 : Tr c A env d B x a) (h2 : a = false → Tr c A env d B y b) (h3 : a = false → b = false → Tr c A env d B z e) : Tr c A env d B (.BoolOp .Or [x, y, z] p) (a || b || e) := by
  intro s E Q P hQ
  refine isTrue_or (h1 s _ _ P fun s₁ k₁ => ?_)
  cases a with
  | true => exact hQ s₁ k₁
  | false =>
    rw [if_neg Bool.false_ne_true]
    refine isTrue_or (h2 rfl s₁ _ _ (P.keeps k₁) fun s₂ k₂ => ?_)
    cases b with
    | true => exact hQ _ (Kp.tr k₁ k₂)
    | false =>
      rw [if_neg Bool.false_ne_true]
      refine isTrue_or (h3 rfl rfl s₂ _ _ ((P.keeps k₁).keeps k₂) fun s₃ k₃ => ?_)
      cases e with
      | true => exact hQ _ (Kp.tr k₁ (Kp.tr k₂ k₃))
      | false => rw [if_neg Bool.false_ne_true]; exact isTrue_or_nil (hQ _ (Kp.tr k₁ (Kp.tr k₂ k₃)))

/- if else, in an expression -/
theorem ev_if {t x y : Expr} {b : Bool} {v : V} (h : Tr c A env d B t b) (h1 : b = true → Ev c A env d B x v) (h2 : b = false → Ev c A env d B y v) : Ev c A env d B (.IfExp t x y p) v := by
  intro s E Q P hQ
  refine wpAny_IfExp (h s _ _ P fun s₁ k₁ => ?_)
  cases b with
  | true => rw [if_pos rfl]; exact h1 rfl s₁ _ _ (P.keeps k₁) fun v s₂ k₂ r₂ => hQ v s₂ (Kp.tr k₁ k₂) r₂
  | false => rw [if_neg Bool.false_ne_true]; exact h2 rfl s₁ _ _ (P.keeps k₁) fun v s₂ k₂ r₂ => hQ v s₂ (Kp.tr k₁ k₂) r₂
theorem ev_if_int {t x y : Expr} {b : Bool} {i j : Int} (h : Tr c A env d B t b) (h1 : b = true → Ev c A env d B x (.int i)) (h2 : b = false → Ev c A env d B y (.int j)) : Ev c A env d B (.IfExp t x y p) (.int (if b then i else j)) := by
  cases b with
  | true => exact ev_if h h1 (fun e => nomatch e)
  | false => exact ev_if h (fun e => nomatch e) h2
theorem ev_if_li {t x y : Expr} {b : Bool} {i j : List Int} (h : Tr c A env d B t b) (h1 : b = true → Ev c A env d B x (.li i)) (h2 : b = false → Ev c A env d B y (.li j)) : Ev c A env d B (.IfExp t x y p) (.li (if b then i else j)) := by
  cases b with
  | true => exact ev_if h h1 (fun e => nomatch e)
  | false => exact ev_if h (fun e => nomatch e) h2

/- lists and tuples made -/
theorem repl_ints {h : Heap} : ∀ {l : List Int} {vals : List Value}, RepL h B (l.map V.int) vals → IntsAre vals l
  | [], [], _ => .nil
  | [], _ :: _, r => r.elim
  | _ :: _, [], r => r.elim
  | i :: l, _ :: vals, r => by
    obtain ⟨t, rfl⟩ := r.1
    exact .cons i t (repl_ints r.2)
theorem repl_rows {h : Heap} : ∀ {ls : List (List Int)} {vals : List Value}, RepL h B (ls.map V.li) vals → RowsAre h B vals ls
  | [], [], _ => .nil
  | [], _ :: _, r => r.elim
  | _ :: _, [], r => r.elim
  | l :: ls, _ :: vals, r => by
    obtain ⟨a, rfl, ha, hc⟩ := r.1
    exact .cons ⟨ha, hc⟩ (repl_rows r.2)
theorem push_kp {s : Shared} (o : Obj) : Keeps s { s with heap := s.heap.push o } := ⟨_, _, rfl, fun b o' e => Heap.get?_push_of_some _ e⟩
theorem RowsAre.length {h : Heap} : ∀ {vs : List Value} {ls : List (List Int)}, RowsAre h B vs ls → vs.length = ls.length
  | _, _, .nil => rfl
  | _, _, .cons x r => congrArg (· + 1) r.length

theorem ev_list {es : List Expr} {l : List Int} (h : EvL c A env d B es (l.map V.int)) (hl : LenOk l.length) : Ev c A env d B (.List es p) (.li l) := by
  intro s E Q P hQ
  refine List_ (h s _ _ p P fun vals s₁ k₁ r₁ => ?_)
  have hi := repl_ints r₁
  refine wpAny_newObj_type (hQ _ _ (Kp.tr k₁ (push_kp _)) ⟨_, rfl, (P.keeps k₁).fresh get_size, hl, vals.toArray, isList_new _ _, by simpa using hi⟩) ?_
  show vals.toArray.size ≤ sizeLine
  have := hl.line
  have := hi.length
  simp only [List.size_toArray]
  omega
theorem ev_listll {es : List Expr} {ls : List (List Int)} (h : EvL c A env d B es (ls.map V.li)) (hl : LenOk ls.length) : Ev c A env d B (.List es p) (.ll ls) := by
  intro s E Q P hQ
  refine List_ (h s _ _ p P fun vals s₁ k₁ r₁ => ?_)
  have hi := repl_rows r₁
  have kk := push_kp (s := s₁) { cls := .type "list", data := .seq vals.toArray }
  refine wpAny_newObj_type (hQ _ _ (Kp.tr k₁ kk) ⟨_, rfl, (P.keeps k₁).fresh get_size, hl, vals.toArray, plain_new _ _, by simpa using hi.off (Kp.off kk B)⟩) ?_
  show vals.toArray.size ≤ sizeLine
  have := hl.line
  have := hi.length
  simp only [List.size_toArray]
  omega
theorem ev_tuple {es : List Expr} {k : Nat} {l : List Int} (h : EvL c A env d B es (l.map V.int)) (hl : LenOk l.length) : Ev c A env d B (.Tuple es k p) (.ti l) := by
  intro s E Q P hQ
  refine Tuple_ (h s _ _ p P fun vals s₁ k₁ r₁ => ?_)
  have hi := repl_ints r₁
  refine wpAny_newObj_type (hQ _ _ (Kp.tr k₁ (push_kp _)) ⟨_, rfl, (P.keeps k₁).fresh get_size, hl, vals.toArray, isTup_new _ _, by simpa using hi⟩) ?_
  show vals.toArray.size ≤ sizeLine
  have := hl.line
  have := hi.length
  simp only [List.size_toArray]
  omega
theorem ev_tuplell {es : List Expr} {k : Nat} {ls : List (List Int)} (h : EvL c A env d B es (ls.map V.li)) (hl : LenOk ls.length) : Ev c A env d B (.Tuple es k p) (.tl ls) := by
  intro s E Q P hQ
  refine Tuple_ (h s _ _ p P fun vals s₁ k₁ r₁ => ?_)
  have hi := repl_rows r₁
  have kk := push_kp (s := s₁) { cls := .type "tuple", data := .seq vals.toArray }
  refine wpAny_newObj_type (hQ _ _ (Kp.tr k₁ kk) ⟨_, rfl, (P.keeps k₁).fresh get_size, hl, vals.toArray, isTup_new _ _, by simpa using hi.off (Kp.off kk B)⟩) ?_
  show vals.toArray.size ≤ sizeLine
  have := hl.line
  have := hi.length
  simp only [List.size_toArray]
  omega
theorem rep_li {h : Heap} {l : List Int} {v : Value} (r : Rep h B (.li l) v) : ∃ a, v = .ref a ∧ IntsAt h B l a := r
theorem repl1 {h : Heap} {u : V} {vals : List Value} (r : RepL h B [u] vals) : ∃ x, vals = [x] ∧ Rep h B u x := by
  cases vals with
  | nil => exact r.elim
  | cons x r1 =>
    cases r1 with
    | nil => exact ⟨x, rfl, r.1⟩
    | cons y r2 => exact r.2.elim
theorem repl2 {h : Heap} {u v : V} {vals : List Value} (r : RepL h B [u, v] vals) : ∃ x y, vals = [x, y] ∧ Rep h B u x ∧ Rep h B v y := by
  cases vals with
  | nil => exact r.elim
  | cons x r1 =>
    cases r1 with
    | nil => exact r.2.elim
    | cons y r2 =>
      cases r2 with
      | nil => exact ⟨x, y, rfl, r.1, r.2.1⟩
      | cons z r3 => exact r.2.2.elim
theorem repl3 {h : Heap} {u v w : V} {vals : List Value} (r : RepL h B [u, v, w] vals) : ∃ x y z, vals = [x, y, z] ∧ Rep h B u x ∧ Rep h B v y ∧ Rep h B w z := by
  cases vals with
  | nil => exact r.elim
  | cons x r1 =>
    cases r1 with
    | nil => exact r.2.elim
    | cons y r2 =>
      cases r2 with
      | nil => exact r.2.2.elim
      | cons z r3 =>
        cases r3 with
        | nil => exact ⟨x, y, z, rfl, r.1, r.2.1, r.2.2.1⟩
        | cons _ _ => exact r.2.2.2.elim
theorem ev_tri {e1 e2 e3 : Expr} {k : Nat} {x y : List Int} {n : Int} (h : EvL c A env d B [e1, e2, e3] [.li x, .li y, .int n]) : Ev c A env d B (.Tuple [e1, e2, e3] k p) (.tri x y n) := by
  intro s E Q P hQ
  refine Tuple_ (h s _ _ p P fun vals s₁ k₁ r₁ => ?_)
  obtain ⟨v1, v2, v3, rfl, r1, r2, r3⟩ := repl3 r₁
  · obtain ⟨a, rfl, ha⟩ := rep_li r1
    obtain ⟨b, rfl, hb⟩ := rep_li r2
    obtain ⟨t, rfl⟩ := r3
    have kk := push_kp (s := s₁) { cls := .type "tuple", data := .seq #[.ref a, .ref b, .int n t] }
    have fin : Rep (s₁.heap.push { cls := .type "tuple", data := .seq #[.ref a, .ref b, .int n t] }) B (.tri x y n) (.ref s₁.heap.objs.size) :=
      ⟨_, rfl, (P.keeps k₁).fresh get_size, a, b, t, isTup_new _ _, ha.off (Kp.off kk B), hb.off (Kp.off kk B)⟩
    have sz : sizeOk (.seq #[Value.ref a, .ref b, .int n t]) := by
      show #[Value.ref a, .ref b, .int n t].size ≤ sizeLine
      have : #[Value.ref a, .ref b, .int n t].size = 3 := rfl
      rw [sizeLine_eq, this]
      omega
    exact wpAny_newObj_type (hQ _ _ (Kp.tr k₁ kk) fin) sz

/- + and * of lists -/
theorem ev_cat {l r : Expr} {x y : List Int} (h1 : Ev c A env d B l (.li x)) (h2 : Ev c A env d B r (.li y)) (hl : LenOk (x ++ y).length) : Ev c A env d B (.BinOp l .Add r p) (.li (x ++ y)) := by
  intro s E Q P hQ
  refine wpAny_BinOp (h1 s _ _ P fun va s₁ k₁ r₁ => h2 s₁ _ _ (P.keeps k₁) fun vb s₂ k₂ r₂ => ?_)
  obtain ⟨a, rfl, ha, _, vs, ⟨⟨c1, dd1, data1, sl1⟩, hp, hc1, n, hd1⟩, hi⟩ := r₁.off (Kp.off k₂ B)
  obtain ⟨b, rfl, hb, _, ws, ⟨⟨c2, dd2, data2, sl2⟩, hq, hc2, m, hd2⟩, hj⟩ := r₂
  simp only at hc1 hd1 hc2 hd2
  subst hc1 hd1 hc2 hd2
  have e1 := hi.length
  have e2 := hj.length
  have e3 := hl.line
  rw [List.length_append] at e3
  have P₂ := (P.keeps k₁).keeps k₂
  refine concat_meets ⟨_, hp, rfl⟩ ⟨_, hq, rfl⟩ noFill_list_add seq_list_add PySem.F.slot_list_add PySem.F.entry_list_add (PySem.F.args_list_add_2 _ _) (list_addW a b vs ws n m dd1 dd2 sl1 sl2 (by simp only [Array.length_toList] at e1 e2; omega)) ⟨hp, hq, ?_⟩
  exact hQ _ _ (Kp.tr k₁ (Kp.tr k₂ (push_kp _))) ⟨_, rfl, P₂.fresh get_size, hl, vs ++ ws, isList_new _ _, by simpa using hi.append hj⟩
end
end Mine
namespace Mine

section
variable {c : Cx} {A : Around} {env : Env} {d : D} {B : List Addr} {pos p : Pos}

/- items -/
def SubInt (i : Expr) : Prop := ∀ (a : Addr) (k : Int) (u : Tok), subscripted i false (.ref a) (.int k u) = operate [.ref a, .int k u] (getItem (.ref a) (.int k u))

theorem ev_item {e i : Expr} {l : List Int} {k x : Int} (h1 : Ev c A env d B e (.li l)) (h2 : Ev c A env d B i (.int k)) (h0 : 0 ≤ k) (hx : l[k.toNat]? = some x) (hs : SubInt i := by intro _ _ _; with_unfolding_all rfl) :
    Ev c A env d B (.Subscript e i p) (.int x) := by
  intro s E Q P hQ
  refine Subscript_ (h1 s _ _ P fun va s₁ k₁ r₁ => h2 s₁ _ _ (P.keeps k₁) fun vb s₂ k₂ r₂ => ?_)
  obtain ⟨a, rfl, _, hl, vs, hp, hi⟩ := r₁.off (Kp.off k₂ B)
  obtain ⟨u, rfl⟩ := r₂
  obtain ⟨t, ht⟩ := hi.get _ _ hx
  have hlt : k.toNat < l.length := (List.getElem?_eq_some_iff.mp hx).1
  have := hl.fit
  exact tail_any hp.typeIs slot_list_getitem.lookup (wpAny_getItem_list hp h0 (by omega) (by simpa using ht) (hQ _ _ (Kp.tr k₁ k₂) ⟨_, rfl⟩)) (hs _ _ _)
theorem ev_itemneg {e i : Expr} {l : List Int} {k x : Int} (h1 : Ev c A env d B e (.li l)) (h2 : Ev c A env d B i (.int k)) (h0 : k < 0) (hk : -(l.length : Int) ≤ k) (hx : l[(k + l.length).toNat]? = some x) (hs : SubInt i := by intro _ _ _; with_unfolding_all rfl) :
    Ev c A env d B (.Subscript e i p) (.int x) := by
  intro s E Q P hQ
  refine Subscript_ (h1 s _ _ P fun va s₁ k₁ r₁ => h2 s₁ _ _ (P.keeps k₁) fun vb s₂ k₂ r₂ => ?_)
  obtain ⟨a, rfl, _, hl, vs, hp, hi⟩ := r₁.off (Kp.off k₂ B)
  obtain ⟨u, rfl⟩ := r₂
  obtain ⟨t, ht⟩ := hi.get _ _ hx
  have := hl.fit
  have e1 := hi.length
  simp only [Array.length_toList] at e1
  exact tail_any hp.typeIs slot_list_getitem.lookup (wpAny_getItem_list_neg hp h0 (by omega) (by omega) (by rw [e1]; simpa using ht) (hQ _ _ (Kp.tr k₁ k₂) ⟨_, rfl⟩)) (hs _ _ _)
theorem rows_get {h : Heap} : ∀ {vs : List Value} {ls : List (List Int)}, RowsAre h B vs ls → ∀ {i : Nat} {l : List Int}, ls[i]? = some l → ∃ a, vs[i]? = some (.ref a) ∧ IntsAt h B l a
  | _, _, .nil, i, l, e => by simp at e
  | _, _, .cons x r, 0, l, e => by simp at e; subst e; exact ⟨_, rfl, x⟩
  | _, _, .cons x r, i + 1, l, e => by simpa using rows_get r (by simpa using e)
theorem ev_itemll {e i : Expr} {ls : List (List Int)} {k : Int} {x : List Int} (h1 : Ev c A env d B e (.ll ls)) (h2 : Ev c A env d B i (.int k)) (h0 : 0 ≤ k) (hx : ls[k.toNat]? = some x) (hs : SubInt i := by intro _ _ _; with_unfolding_all rfl) :
    Ev c A env d B (.Subscript e i p) (.li x) := by
  intro s E Q P hQ
  refine Subscript_ (h1 s _ _ P fun va s₁ k₁ r₁ => h2 s₁ _ _ (P.keeps k₁) fun vb s₂ k₂ r₂ => ?_)
  obtain ⟨a, rfl, _, hl, vs, hp, hi⟩ := r₁.off (Kp.off k₂ B)
  obtain ⟨u, rfl⟩ := r₂
  obtain ⟨t, ht, hr⟩ := rows_get hi hx
  have hlt : k.toNat < ls.length := (List.getElem?_eq_some_iff.mp hx).1
  have := hl.fit
  exact tail_any hp.isList.typeIs slot_list_getitem.lookup (wpAny_getItem_list hp.isList h0 (by omega) (by simpa using ht) (hQ _ _ (Kp.tr k₁ k₂) ⟨_, rfl, hr⟩)) (hs _ _ _)
theorem ev_itemllneg {e i : Expr} {ls : List (List Int)} {k : Int} {x : List Int} (h1 : Ev c A env d B e (.ll ls)) (h2 : Ev c A env d B i (.int k)) (h0 : k < 0) (hk : -(ls.length : Int) ≤ k) (hx : ls[(k + ls.length).toNat]? = some x) (hs : SubInt i := by intro _ _ _; with_unfolding_all rfl) :
    Ev c A env d B (.Subscript e i p) (.li x) := by
  intro s E Q P hQ
  refine Subscript_ (h1 s _ _ P fun va s₁ k₁ r₁ => h2 s₁ _ _ (P.keeps k₁) fun vb s₂ k₂ r₂ => ?_)
  obtain ⟨a, rfl, _, hl, vs, hp, hi⟩ := r₁.off (Kp.off k₂ B)
  obtain ⟨u, rfl⟩ := r₂
  obtain ⟨t, ht, hr⟩ := rows_get hi hx
  have := hl.fit
  have e1 := hi.length
  simp only [Array.length_toList] at e1
  exact tail_any hp.isList.typeIs slot_list_getitem.lookup (wpAny_getItem_list_neg hp.isList h0 (by omega) (by omega) (by rw [e1]; simpa using ht) (hQ _ _ (Kp.tr k₁ k₂) ⟨_, rfl, hr⟩)) (hs _ _ _)
/- an item of the list that is being filled -/
theorem ev_ownll {x : Str} {q : Pos} {i : Expr} {ls : List (List Int)} {a : Addr} {k : Int} {y : List Int} (ho : d.own = some (x, a, .ll ls)) (h2 : Ev c A env d B i (.int k)) (h0 : k < 0) (hk : -(ls.length : Int) ≤ k) (hx : ls[(k + ls.length).toNat]? = some y) (hd : (x == ("__debug__" : Str)) = false := by rfl)
    (hs : SubInt i := by intro _ _ _; with_unfolding_all rfl) : Ev c A env d B (.Subscript (.Name x q) i p) (.li y) := by
  intro s E Q P hQ
  have key : wpAny (model c.prog c.w) A (eval (.Name x q) env) (fun v s' => v = .ref a ∧ s' = s) E s := by
    obtain ⟨r, _⟩ := P.ow _ _ _ ho
    rcases r with ⟨e, m, hn, hm⟩ | ⟨e, k, hk, hc⟩
    · exact wpAny_Name (wpAny_loadName_local P.ek e hn hm ⟨rfl, rfl⟩) hd
    · exact wpAny_Name (wpAny_loadName_cell P.ek e hk hc ⟨rfl, rfl⟩) hd
  refine Subscript_ (wpAny_mono key (fun v s' e => ?_) fun _ _ e => e)
  obtain ⟨rfl, rfl⟩ := e
  refine h2 _ _ _ P fun vb s₂ k₂ r₂ => ?_
  obtain ⟨hl, vs, hp, hi⟩ := ((P.keeps k₂).ow _ _ _ ho).2
  obtain ⟨u, rfl⟩ := r₂
  obtain ⟨t, ht, hr⟩ := rows_get hi hx
  have := hl.fit
  have e1 := hi.length
  simp only [Array.length_toList] at e1
  exact tail_any hp.isList.typeIs slot_list_getitem.lookup (wpAny_getItem_list_neg hp.isList h0 (by omega) (by omega) (by rw [e1]; simpa using ht) (hQ _ _ k₂ ⟨_, rfl, hr⟩)) (hs _ _ _)
theorem seqIndex_of_nonneg {k : Int} {n : Nat} (h0 : 0 ≤ k) (h1 : k < n) : seqIndex? k n = some k.toNat := by
  unfold seqIndex?
  first
    | (simp only []; split <;> first | omega | (split <;> first | omega | rfl))
    | (simp; omega)
theorem ev_itemti {e i : Expr} {l : List Int} {k x : Int} (h1 : Ev c A env d B e (.ti l)) (h2 : Ev c A env d B i (.int k)) (h0 : 0 ≤ k) (hx : l[k.toNat]? = some x) (hs : SubInt i := by intro _ _ _; with_unfolding_all rfl) :
    Ev c A env d B (.Subscript e i p) (.int x) := by
  intro s E Q P hQ
  refine Subscript_ (h1 s _ _ P fun va s₁ k₁ r₁ => h2 s₁ _ _ (P.keeps k₁) fun vb s₂ k₂ r₂ => ?_)
  obtain ⟨a, rfl, _, hl, vs, hp, hi⟩ := r₁.off (Kp.off k₂ B)
  obtain ⟨u, rfl⟩ := r₂
  obtain ⟨t, ht⟩ := hi.get _ _ hx
  have hlt : k.toNat < l.length := (List.getElem?_eq_some_iff.mp hx).1
  have := hl.fit
  have e1 := hi.length
  have hlo : -(2 ^ 63 : Int) ≤ k := by omega
  have hhi : k < (2 ^ 63 : Int) := by omega
  have hj : seqIndex? k vs.toList.length = some k.toNat := by
    have := seqIndex_of_nonneg (n := vs.toList.length) h0 (by omega)
    exact this
  exact item_tupleT (l := vs.toList) (by simpa using hp) hlo hhi hj ht (hQ _ _ (Kp.tr k₁ k₂) ⟨_, rfl⟩) (hs _ _ _)
theorem ev_itemtl {e i : Expr} {ls : List (List Int)} {k : Int} {x : List Int} (h1 : Ev c A env d B e (.tl ls)) (h2 : Ev c A env d B i (.int k)) (h0 : 0 ≤ k) (hx : ls[k.toNat]? = some x) (hs : SubInt i := by intro _ _ _; with_unfolding_all rfl) :
    Ev c A env d B (.Subscript e i p) (.li x) := by
  intro s E Q P hQ
  refine Subscript_ (h1 s _ _ P fun va s₁ k₁ r₁ => h2 s₁ _ _ (P.keeps k₁) fun vb s₂ k₂ r₂ => ?_)
  obtain ⟨a, rfl, _, hl, vs, hp, hi⟩ := r₁.off (Kp.off k₂ B)
  obtain ⟨u, rfl⟩ := r₂
  obtain ⟨t, ht, hr⟩ := rows_get hi hx
  have hlt : k.toNat < ls.length := (List.getElem?_eq_some_iff.mp hx).1
  have := hl.fit
  have e1 := hi.length
  have hlo : -(2 ^ 63 : Int) ≤ k := by omega
  have hhi : k < (2 ^ 63 : Int) := by omega
  have hj : seqIndex? k vs.toList.length = some k.toNat := by
    have := seqIndex_of_nonneg (n := vs.toList.length) h0 (by omega)
    exact this
  exact item_tupleT (l := vs.toList) (by simpa using hp) hlo hhi hj ht (hQ _ _ (Kp.tr k₁ k₂) ⟨_, rfl, hr⟩) (hs _ _ _)
theorem ev_tri1 {e i : Expr} {x y : List Int} {n : Int} (h1 : Ev c A env d B e (.tri x y n)) (h2 : Ev c A env d B i (.int 1)) (hs : SubInt i := by intro _ _ _; with_unfolding_all rfl) :
    Ev c A env d B (.Subscript e i p) (.li y) := by
  intro s E Q P hQ
  refine Subscript_ (h1 s _ _ P fun va s₁ k₁ r₁ => h2 s₁ _ _ (P.keeps k₁) fun vb s₂ k₂ r₂ => ?_)
  obtain ⟨a, rfl, _, g, q, t, hp, hx, hy⟩ := r₁.off (Kp.off k₂ B)
  obtain ⟨u, rfl⟩ := r₂
  exact item_tupleT (l := [.ref g, .ref q, .int n t]) (by simpa using hp) (by omega) (by omega) (j := 1) (by rfl) rfl (hQ _ _ (Kp.tr k₁ k₂) ⟨_, rfl, hy⟩) (hs _ _ _)

/- slices -/
theorem ev_slice {e : Expr} {lo hi : Option Expr} {q : Pos} {l m : List Int} {x y : Option Int} (h1 : Ev c A env d B e (.li l))
    (hlo : match lo, x with | none, none => True | some e, some i => Ev c A env d B e (.int i) | _, _ => False)
    (hhi : match hi, y with | none, none => True | some e, some i => Ev c A env d B e (.int i) | _, _ => False)
    (hm : ∀ vs : List Value, IntsAre vs l → IntsAre (slicePick vs.toArray x y none).toList m) (hlen : m.length ≤ l.length)
    (hs : ∀ a b, ∃ ops, subscripted (.Slice lo hi none q) false (.ref a) (.ref b) = operate ops (getItem (.ref a) (.ref b))) : Ev c A env d B (.Subscript e (.Slice lo hi none q) p) (.li m) := by
  intro s E Q P hQ
  have part : ∀ (s : Shared) (o : Option Expr) (z : Option Int) (Q : Value → Shared → Prop), Pre c env d B s → (match o, z with | none, none => True | some e, some i => Ev c A env d B e (.int i) | _, _ => False) →
      (∀ v s', Keeps s s' → IsPart v z → Q v s') → wpAny (model c.prog c.w) A (evalPart o env) Q E s := by
    intro s o z Q P h hQ
    cases o with
    | none =>
      cases z with
      | none => exact wpAny_pure (hQ _ _ (Kp.refl s) .none)
      | some i => exact h.elim
    | some e =>
      cases z with
      | none => exact h.elim
      | some i => exact h s _ _ P fun v s' k r => by obtain ⟨t, rfl⟩ := r; exact hQ _ _ k (.int i t)
  refine Subscript_ (h1 s _ _ P fun va s₁ k₁ r₁ => wpAny_Slice (part s₁ lo x _ (P.keeps k₁) hlo fun vl s₂ k₂ p₂ => part s₂ hi y _ ((P.keeps k₁).keeps k₂) hhi fun vu s₃ k₃ p₃ => ?_))
  rw [evalPart_none]
  refine wpAny_pure ?_
  have k₄ := push_kp (s := s₃) { cls := .type "slice", data := .fields #[vl, vu, .none] }
  have P₄ := (((P.keeps k₁).keeps k₂).keeps k₃).keeps k₄
  obtain ⟨a, rfl, _, hl, vs, hp, hi'⟩ := r₁.off (Kp.off (Kp.tr k₂ (Kp.tr k₃ k₄)) B)
  obtain ⟨ops, ho⟩ := hs a s₃.heap.objs.size
  have e1 := hi'.length
  have hmm := hm _ hi'
  refine tail_any (ops := ops) hp.typeIs slot_list_getitem.lookup (wpAny_getItem_list_slice hp (Heap.IsSliceOf.new ..) p₂ p₃ .none (by simp) (hQ _ _ (Kp.tr k₁ (Kp.tr k₂ (Kp.tr k₃ (Kp.tr k₄ (push_kp _))))) ?_) (by have := hl.line; simp only [Array.length_toList] at e1; omega)) ho
  exact ⟨_, rfl, P₄.fresh get_size, by unfold LenOk at hl ⊢; omega, _, isList_new _ _, by simpa using hmm⟩
theorem ev_from {e i : Expr} {q : Pos} {l : List Int} {k : Int} (h1 : Ev c A env d B e (.li l)) (h2 : Ev c A env d B i (.int k)) (h0 : 0 ≤ k)
    (hs : ∀ a b, ∃ ops, subscripted (.Slice (some i) none none q) false (.ref a) (.ref b) = operate ops (getItem (.ref a) (.ref b)) := by intro a b; exact ⟨_, by with_unfolding_all rfl⟩) : Ev c A env d B (.Subscript e (.Slice (some i) none none q) p) (.li (l.drop k.toNat)) :=
  ev_slice (x := some k) (y := none) h1 h2 trivial (fun vs hv => slice_ints_fromW hv h0) (by simp) hs
theorem ev_upto {e i : Expr} {q : Pos} {l : List Int} {k : Int} (h1 : Ev c A env d B e (.li l)) (h2 : Ev c A env d B i (.int k)) (h0 : 0 ≤ k)
    (hs : ∀ a b, ∃ ops, subscripted (.Slice none (some i) none q) false (.ref a) (.ref b) = operate ops (getItem (.ref a) (.ref b)) := by intro a b; exact ⟨_, by with_unfolding_all rfl⟩) : Ev c A env d B (.Subscript e (.Slice none (some i) none q) p) (.li (l.take k.toNat)) :=
  ev_slice (x := none) (y := some k) h1 trivial h2 (fun vs hv => slice_ints_uptoW hv h0) (by simp; omega) hs
theorem pick_butlast (vs : Array Value) : slicePick vs none (some (-1)) none = slicePick vs none (some ((vs.size - 1 : Nat) : Int)) none := by
  unfold slicePick
  have : sliceBounds none (some (-1)) none vs.size = sliceBounds none (some ((vs.size - 1 : Nat) : Int)) none vs.size := by
    unfold sliceBounds
    simp only [Option.getD_none]
    congr 2
    simp only [show ((-1 : Int) < 0) = True from by simp, if_true, show ((1 : Int) > 0) = True from by simp]
    rw [if_neg (by omega)]
    omega
  rw [this]
theorem ev_butlast {e i : Expr} {q : Pos} {l : List Int} (h1 : Ev c A env d B e (.li l)) (h2 : Ev c A env d B i (.int (-1)))
    (hs : ∀ a b, ∃ ops, subscripted (.Slice none (some i) none q) false (.ref a) (.ref b) = operate ops (getItem (.ref a) (.ref b)) := by intro a b; exact ⟨_, by with_unfolding_all rfl⟩) : Ev c A env d B (.Subscript e (.Slice none (some i) none q) p) (.li l.dropLast) :=
  ev_slice (x := none) (y := some (-1)) h1 trivial h2 (fun vs hv => by
    rw [pick_butlast, List.dropLast_eq_take]
    have e1 := hv.length
    have := slice_ints_uptoW hv (y := ((vs.toArray.size - 1 : Nat) : Int)) (by omega)
    simpa [e1] using this) (by simp) hs

/- calls of the text's own -/
theorem ev_call {x : Str} {q : Pos} {es : List Expr} {vs : List V} {r : V} {n i : Nat} (hsp : Spec c (theFn i) vs r n) (hR : Room A n) (h : EvL c A env d B es vs) (hi : 3 ≤ i ∧ i < 60 := by decide) (hdef : ∃ n a b d r t sc ts bi p, theFn i = .FunctionDef n a b d r t sc ts bi p := by exact ⟨_, _, _, _, _, _, _, _, _, _, rfl⟩) (hn : nameOf (theFn i) = x := by rfl) (hkind : env.kindOf x = some .globalImplicit := by rfl)
    (hes : ∃ e rest, es = e :: rest ∧ starEach (e :: rest) env = (false, eval e env) :: starEach rest env := by exact ⟨_, _, rfl, rfl⟩) (hd : (x == ("__debug__" : Str)) = false := by rfl) : Ev c A env d B (.Call (.Name x q) es [] p) r := by
  intro s E Q P hQ
  obtain ⟨f, o, pm, code, doc, e1, e2, e3, e4⟩ := P.base.fn i hi.1 hi.2 hdef
  have e1' : c.mg x = some (.ref f) := hn ▸ e1
  refine wpAny_Call_Name_kw (Name_function_global P.ek hkind (loadGlobal_global (by rw [P.eg]; exact P.base.g) e1' ?_) hd)
  obtain ⟨e, rest, rfl, hst⟩ := hes
  rw [hst]
  refine callWith_function (o := o) (fd := docDef (nameOf (theFn i)) (argsOf (theFn i)) (bodyOf (theFn i)) (scopeOf (theFn i)) pm code doc) (evalArgs_plain ?_)
  have := h s E _ p P fun vals s₁ k₁ r₁ => (⟨⟨Kp.get k₁ e2, e3⟩, hsp A B s₁ E Q f vals e1 hR (P.keeps k₁).base (P.keeps k₁).live r₁ fun val s₂ k₂ r₂ => hQ val s₂ (Kp.tr k₁ k₂) r₂⟩ : (s₁.heap.get? f = some o ∧ o.data = .func (docDef (nameOf (theFn i)) (argsOf (theFn i)) (bodyOf (theFn i)) (scopeOf (theFn i)) pm code doc)) ∧ wpAny (model c.prog c.w) A (call (.ref f) ([] ++ vals) []) Q E s₁)
  rw [hst] at this
  exact this

/- built-ins -/
theorem ev_bcall {x : Str} {q : Pos} {id : String} {es : List Expr} {vs : List V} {s : Shared} {E Q : Value → Shared → Prop} (P : Pre c env d B s) (hx : x ∈ bnames) (hb : bootBuiltins x = some (.builtin id)) (hkind : env.kindOf x = some .globalImplicit)
    (h : EvL c A env d B es vs) (hes : ∃ e rest, es = e :: rest ∧ starEach (e :: rest) env = (false, eval e env) :: starEach rest env) (hpl : ((backTo p (starEach es env)).any (·.1)) = false) (hd : (x == ("__debug__" : Str)) = false) (hnn : x ≠ "__name__")
    (hc : ∀ vals s₁, Keeps s s₁ → RepL s₁.heap B vs vals → wpAny (model c.prog c.w) A (call (.builtin id) vals) Q E s₁) : wpAny (model c.prog c.w) A (eval (.Call (.Name x q) es [] p) env) Q E s := by
  refine wpAny_Call_Name_kw (Name_function_global P.ek hkind (loadGlobal_builtin (by rw [P.eg]; exact P.base.g) (P.base.free x hx) (by rw [P.eb]; exact P.base.b) ((P.base.boot x hnn).trans hb) ?_) hd)
  obtain ⟨e, rest, rfl, hst⟩ := hes
  refine callWith_builtin hpl ?_
  rw [hst]
  refine evalArgs_plain ?_
  have := h s E _ p P fun vals s₁ k₁ r₁ => hc vals s₁ k₁ r₁
  rw [hst] at this
  exact this
theorem ev_tcall {x : Str} {q : Pos} {id : String} {es : List Expr} {vs : List V} {s : Shared} {E Q : Value → Shared → Prop} (P : Pre c env d B s) (hx : x ∈ bnames) (hb : bootBuiltins x = some (.type id)) (hkind : env.kindOf x = some .globalImplicit)
    (h : EvL c A env d B es vs) (hes : ∃ e rest, es = e :: rest ∧ starEach (e :: rest) env = (false, eval e env) :: starEach rest env) (hpl : ((backTo p (starEach es env)).any (·.1)) = false) (hd : (x == ("__debug__" : Str)) = false) (hnn : x ≠ "__name__")
    (hc : ∀ vals s₁, Keeps s s₁ → RepL s₁.heap B vs vals → wpAny (model c.prog c.w) A (call (.type id) vals) Q E s₁) : wpAny (model c.prog c.w) A (eval (.Call (.Name x q) es [] p) env) Q E s := by
  refine wpAny_Call_Name_kw (Name_function_global P.ek hkind (loadGlobal_builtin (by rw [P.eg]; exact P.base.g) (P.base.free x hx) (by rw [P.eb]; exact P.base.b) ((P.base.boot x hnn).trans hb) ?_) hd)
  obtain ⟨e, rest, rfl, hst⟩ := hes
  refine PyProof.Rows.callWith_type hpl ?_
  rw [hst]
  refine evalArgs_plain ?_
  have := h s E _ p P fun vals s₁ k₁ r₁ => hc vals s₁ k₁ r₁
  rw [hst] at this
  exact this
end
end Mine
namespace Mine

section
variable {c : Cx} {A : Around} {env : Env} {d : D} {B : List Addr} {pos p q : Pos}

theorem ev_len {e : Expr} {l : List Int} (h : Ev c A env d B e (.li l)) (hkind : env.kindOf "len" = some .globalImplicit := by rfl) (hes : starEach [e] env = (false, eval e env) :: starEach [] env := by rfl) : Ev c A env d B (.Call (.Name "len" q) [e] [] p) (.int l.length) := by
  intro s E Q P hQ
  refine ev_bcall (vs := [.li l]) P (by decide) boot_len hkind (evl_cons h evl_nil hes) ⟨_, _, rfl, hes⟩ (by rw [hes]; rfl) (by decide) (by decide) fun vals s₁ k₁ r₁ => ?_
  obtain ⟨v, rfl, r1⟩ := repl1 r₁
  · obtain ⟨a, rfl, _, hl, vs, hp, hi⟩ := r1
    have e1 := hi.length
    simp only [Array.length_toList] at e1
    have := hl.fit
    exact PyProof.Rows.len_list hp (by omega) (hQ _ _ (Kp.tr k₁ (Kp.tok _ _)) ⟨_, by rw [e1]⟩)
theorem ev_lenll {e : Expr} {l : List (List Int)} (h : Ev c A env d B e (.ll l)) (hkind : env.kindOf "len" = some .globalImplicit := by rfl) (hes : starEach [e] env = (false, eval e env) :: starEach [] env := by rfl) : Ev c A env d B (.Call (.Name "len" q) [e] [] p) (.int l.length) := by
  intro s E Q P hQ
  refine ev_bcall (vs := [.ll l]) P (by decide) boot_len hkind (evl_cons h evl_nil hes) ⟨_, _, rfl, hes⟩ (by rw [hes]; rfl) (by decide) (by decide) fun vals s₁ k₁ r₁ => ?_
  obtain ⟨v, rfl, r1⟩ := repl1 r₁
  · obtain ⟨a, rfl, _, hl, vs, hp, hi⟩ := r1
    have e1 := hi.length
    simp only [Array.length_toList] at e1
    have := hl.fit
    exact PyProof.Rows.len_list hp.isList (by omega) (hQ _ _ (Kp.tr k₁ (Kp.tok _ _)) ⟨_, by rw [e1]⟩)
theorem ev_abs {e : Expr} {i : Int} (h : Ev c A env d B e (.int i)) (hkind : env.kindOf "abs" = some .globalImplicit := by rfl) (hes : starEach [e] env = (false, eval e env) :: starEach [] env := by rfl) : Ev c A env d B (.Call (.Name "abs" q) [e] [] p) (.int i.natAbs) := by
  intro s E Q P hQ
  refine ev_bcall (id := "abs") (vs := [.int i]) P (by decide) (by decide +kernel) hkind (evl_cons h evl_nil hes) ⟨_, _, rfl, hes⟩ (by rw [hes]; rfl) (by decide) (by decide) fun vals s₁ k₁ r₁ => ?_
  obtain ⟨v, rfl, r1⟩ := repl1 r₁
  · obtain ⟨t, rfl⟩ := r1
    exact PyProof.Rows.call_abs_int fun u tk => hQ _ _ (Kp.tr k₁ (Kp.tok _ _)) ⟨u, by congr 1; split <;> omega⟩
theorem ev_max {e1 e2 : Expr} {i j : Int} (hR : A.handled = none) (h1 : Ev c A env d B e1 (.int i)) (h2 : Ev c A env d B e2 (.int j)) (hkind : env.kindOf "max" = some .globalImplicit := by rfl)
    (hes : starEach [e1, e2] env = (false, eval e1 env) :: starEach [e2] env := by rfl) (hes2 : starEach [e2] env = (false, eval e2 env) :: starEach [] env := by rfl) : Ev c A env d B (.Call (.Name "max" q) [e1, e2] [] p) (.int (max i j)) := by
  intro s E Q P hQ
  refine ev_bcall (vs := [.int i, .int j]) P (by decide) boot_max hkind (evl_cons h1 (evl_cons h2 evl_nil hes2) hes) ⟨_, _, rfl, hes⟩ (by rw [hes, hes2]; rfl) (by decide) (by decide) fun vals s₁ k₁ r₁ => ?_
  obtain ⟨v, w, rfl, r1, r2⟩ := repl2 r₁
  · obtain ⟨t, rfl⟩ := r1
    obtain ⟨u, rfl⟩ := r2
    refine max_two_ints hR fun h' tk hk => hQ _ _ (Kp.tr k₁ (Kp.heap hk)) ?_
    by_cases hij : j > i
    · rw [if_pos hij]; exact ⟨u, by congr 1; omega⟩
    · rw [if_neg hij]; exact ⟨t, by congr 1; omega⟩
theorem ev_listcopy {e : Expr} {l : List Int} (h : Ev c A env d B e (.li l)) (hkind : env.kindOf "list" = some .globalImplicit := by rfl) (hes : starEach [e] env = (false, eval e env) :: starEach [] env := by rfl) : Ev c A env d B (.Call (.Name "list" q) [e] [] p) (.li l) := by
  intro s E Q P hQ
  refine ev_tcall (id := "list") (vs := [.li l]) P (by decide) (by decide +kernel) hkind (evl_cons h evl_nil hes) ⟨_, _, rfl, hes⟩ (by rw [hes]; rfl) (by decide) (by decide) fun vals s₁ k₁ r₁ => ?_
  obtain ⟨v, rfl, r1⟩ := repl1 r₁
  · obtain ⟨a, rfl, _, hl, vs, ⟨o, hp, hc, n, hd⟩, hi⟩ := r1
    have e1 := hi.length
    simp only [Array.length_toList] at e1
    have hln := hl.line
    exact call_list_seq a (.inl rfl) hp hc hd (fun h' c' hk ho => hQ _ _ (Kp.tr k₁ (Kp.heap hk)) ⟨_, rfl, (P.keeps k₁).fresh get_size, hl, vs, ⟨_, ho, rfl, c', rfl⟩, hi⟩) (by omega)
/- list(reversed(..)) is not met: the reversed object is drawn by list() -/

theorem mul_rep {s₂ : Shared} {E Q : Value → Shared → Prop} {v : Value} {x k : Int} {u : Tok} (r : Rep s₂.heap B (.li [x]) v) (hk : LenOk k.toNat) (hlo : -(2 ^ 63 : Int) ≤ k) (fr : ∀ {a : Addr}, s₂.heap.get? a = none → a ∉ B)
    (hQ : ∀ s₃, Keeps s₂ s₃ → (∃ vs : Array Value, s₃.heap.IsList s₂.heap.objs.size vs ∧ IntsAre vs.toList (List.replicate k.toNat x)) → s₂.heap.objs.size ∉ B → Q (.ref s₂.heap.objs.size) s₃) : wpAny (model c.prog c.w) A (binaryOp .Mult v (.int k u)) Q E s₂ := by
  obtain ⟨a, rfl, _, hl, vs, ⟨⟨c1, dd1, data1, sl1⟩, hp, hc1, n, hd1⟩, hi⟩ := r
  simp only at hc1 hd1
  subst hc1 hd1
  have e1 : ∃ t, vs = #[.int x t] := by
    obtain ⟨t, vs', hv, hr⟩ := hi.cons_inv
    have := hr.nil_inv
    subst this
    exact ⟨t, by rw [← Array.toList_inj]; exact hv⟩
  obtain ⟨t, rfl⟩ := e1
  have hk' : k < 2 ^ 63 := by unfold LenOk at hk; omega
  have hk2 : k.toNat ≤ 4096 := hk
  refine wpAny_binaryOp_repeat_ref (T := "list") (U := "int") (by decide) ⟨_, hp, rfl⟩ (fun s' => typeIs_int s' k u) noFill_list_mul F.fills_int_mul F.slot_int_rmul repeat_list F.slot_int_index.lookup
    (call_meets F.slot_int_rmul (typeIs_int s₂ k u) F.entry_int_rmul (F.args_int_rmul_2 _ _) (lm_int_rmul_list_any k u a #[.int x t] n dd1 sl1)
      ⟨hp, rfl, ⟨_, hp, rfl⟩, call_meets F.slot_list_mul ⟨_, hp, rfl⟩ F.entry_list_mul (F.args_list_mul_2 _ _)
        (lm_list_mul_any a #[.int x t] n dd1 sl1 k u (by simp [Builtin.List.listFitsIndex]; omega) (by have hz : (#[Value.int x t] : Array Value).size = 1 := rfl; rw [hz]; omega) (by simp [Builtin.List.listTooLong, sizeLine]; omega))
        ⟨hp, hQ _ (push_kp _) ⟨_, isList_new _ _, ?_⟩ (fr get_size)⟩⟩)
  have e : (#[Value.int x t] : Array Value) = [Value.int x t].toArray := rfl
  rw [e, listMul_foldl_if]
  simp only [List.flatten_replicate_singleton]
  generalize k.toNat = n'
  induction n' with
  | zero => exact .nil
  | succ n' ih => exact .cons x t ih
theorem ev_rep0 {e1 e2 : Expr} {x k : Int} (h1 : Ev c A env d B e1 (.li [x])) (h2 : Ev c A env d B e2 (.int k)) (hk : LenOk k.toNat) (hlo : -(2 ^ 63 : Int) ≤ k) : Ev c A env d B (.BinOp e1 .Mult e2 p) (.li (List.replicate k.toNat x)) := by
  intro s E Q P hQ
  refine wpAny_BinOp (h1 s _ _ P fun va s₁ k₁ r₁ => h2 s₁ _ _ (P.keeps k₁) fun vb s₂ k₂ r₂ => ?_)
  obtain ⟨u, rfl⟩ := r₂
  exact mul_rep (r₁.off (Kp.off k₂ B)) hk hlo ((P.keeps k₁).keeps k₂).fresh fun s₃ k₃ hp hb => hQ _ _ (Kp.tr k₁ (Kp.tr k₂ k₃)) ⟨_, rfl, hb, by rw [List.length_replicate]; exact hk, hp⟩

theorem ev_isstr {e1 : Expr} {l : List Int} {q2 : Pos} (h1 : Ev c A env d B e1 (.ti l)) (hkind : env.kindOf "isinstance" = some .globalImplicit := by rfl) (hk2 : env.kindOf "str" = some .globalImplicit := by rfl)
    (hes : starEach [e1, .Name "str" q2] env = (false, eval e1 env) :: starEach [.Name "str" q2] env := by rfl) (hes2 : starEach [.Name "str" q2] env = (false, eval (.Name "str" q2) env) :: starEach [] env := by rfl) :
    Ev c A env d B (.Call (.Name "isinstance" q) [e1, .Name "str" q2] [] p) (.bool false) := by
  intro s E Q P hQ
  refine wpAny_Call_Name_kw (Name_function_global P.ek hkind (loadGlobal_builtin (by rw [P.eg]; exact P.base.g) (P.base.free _ (by decide)) (by rw [P.eb]; exact P.base.b) ((P.base.boot _ (by decide)).trans boot_isinstance) ?_) (by decide))
  refine callWith_builtin (by rw [hes, hes2]; rfl) ?_
  rw [hes, hes2]
  refine evalArgs_plain (spliced_cons (h1 s _ _ P fun v s₁ k₁ r₁ => spliced_cons ?_))
  have P₁ := P.keeps k₁
  refine Name_function_global P₁.ek hk2 (loadGlobal_builtin (by rw [P₁.eg]; exact P₁.base.g) (P₁.base.free _ (by decide)) (by rw [P₁.eb]; exact P₁.base.b) ((P₁.base.boot _ (by decide)).trans boot_str) ?_) (by decide)
  refine spliced_nil ?_
  obtain ⟨a, rfl, _, _, vs, ⟨o, ho, hc, n, hd⟩, hi⟩ := r₁
  exact call_isinstance (isinstance_false_tuple (by decide +kernel) F.isi_meta_str F.sub_tuple_str) ⟨⟨o, ho, hc⟩, hQ _ _ (Kp.tr k₁ (Kp.tok _ _)) rfl⟩
end
end Mine
namespace Mine

def ownA : Option (Str × Addr × V) → List Addr
  | some (_, a, _) => [a]
  | none => []
def bx (env : Env) (d : D) (B : List Addr) : List Addr := ownA d.own ++ (env.locals :: env.cells.map (·.2) ++ B)

def Has (env : Env) (m cm : Str → Option Value) (x : Str) (val : Value) : Prop :=
  (env.kindOf x = some .local ∧ m x = some val) ∨ (env.kindOf x = some .cell ∧ (∃ k, env.cells.lookup x = some k) ∧ cm x = some val)
def KindOk (env : Env) (x : Str) : Prop := env.kindOf x = some .local ∨ (env.kindOf x = some .cell ∧ ∃ k, env.cells.lookup x = some k)

/- fewer names -/
def SubR : Rho → Rho → Prop
  | [], _ => True
  | (x, v) :: r, ρ => ρ.lookup x = some v ∧ SubR r ρ
theorem SubR.at : ∀ {ρ' ρ : Rho}, SubR ρ' ρ → ∀ p ∈ ρ', ρ.lookup p.1 = some p.2
  | _ :: _, _, h, p, hp => by
    rcases List.mem_cons.mp hp with rfl | hp
    · exact h.1
    · exact SubR.at h.2 p hp

structure Inv (c : Cx) (s₀ : Shared) (B₀ : List Addr) (G : Addr → Option Obj) (env : Env) (B : List Addr) (d : D) (s : Shared) : Prop where
  ek : env.scope.kind = .function
  eg : env.globals = mainGlobals
  eb : env.builtins = builtinsNs
  base₀ : c.Base s₀.heap
  b0 : ∀ b ∈ B₀, b ∈ B
  lv : ∀ b ∈ B, ∃ o, G b = some o
  lk : ∀ n k, (n, k) ∈ env.cells → env.cells.lookup n = some k
  gk : ∀ b o, G b = some o → s.heap.get? b = some o
  gl : G env.locals = none
  gc : ∀ n k, (n, k) ∈ env.cells → G k = none
  fr : ∃ m cm, InCallC s₀ env.locals m env.cells cm s ∧ (∀ x v, d.ρ.lookup x = some v → ∃ val, Has env m cm x val ∧ Rep s.heap (bx env d B) v val) ∧
    (∀ x a v, d.own = some (x, a, v) → Has env m cm x (.ref a) ∧ Cont s.heap (bx env d B) v a ∧ a ∉ env.locals :: env.cells.map (·.2) ++ B ∧ G a = none ∧ s₀.heap.get? a = none)

theorem inCallC_kp {s₀ s s' : Shared} {L : Addr} {m cm : Str → Option Value} {cs : List (Str × Addr)} (x : InCallC s₀ L m cs cm s) (k : Keeps s s') : InCallC s₀ L m cs cm s' := by
  obtain ⟨h, t, rfl, k⟩ := k
  obtain ⟨⟨⟨h₁, t₁, e⟩, hn, hk, hf⟩, hc, ha, hl⟩ := x
  subst e
  exact ⟨⟨⟨h, t, rfl⟩, hn.keeps k, fun b o e => k b o (hk b o e), hf⟩, fun n c e => (hc n c e).keeps k, ha, hl⟩

theorem contOff {h h' : Heap} {B : List Addr} {v : V} {a : Addr} (x : Cont h B v a) (ka : ∀ o, h.get? a = some o → h'.get? a = some o) (k : Off B h h') : Cont h' B v a := by
  cases v with
  | li l => exact let ⟨hl, vs, hp, hi⟩ := x; ⟨hl, vs, hp.at ka, hi⟩
  | ll ls => exact let ⟨hl, vs, hp, hi⟩ := x; ⟨hl, vs, hp.at ka, hi.off k⟩
  | ti l => exact let ⟨hl, vs, hp, hi⟩ := x; ⟨hl, vs, isTup_at hp ka, hi⟩
  | tl ls => exact let ⟨hl, vs, hp, hi⟩ := x; ⟨hl, vs, isTup_at hp ka, hi.off k⟩
  | tri u v n => exact let ⟨p, q, t, hp, h1, h2⟩ := x; ⟨p, q, t, isTup_at hp ka, h1.off k, h2.off k⟩
  | di l => exact DiAt.move x ka fun _ _ y => y.off k
  | pool l n => exact PoolAt.move x ka fun _ _ y => y.off k
  | none => exact x.elim
  | bool b => exact x.elim
  | int i => exact x.elim
theorem Cont.live {h : Heap} {B : List Addr} {v : V} {a : Addr} (x : Cont h B v a) : ∃ o, h.get? a = some o := by
  cases v with
  | li l => exact let ⟨_, _, ⟨o, e, _⟩, _⟩ := x; ⟨o, e⟩
  | ll ls => exact let ⟨_, _, ⟨n, e⟩, _⟩ := x; ⟨_, e⟩
  | ti l => exact let ⟨_, _, ⟨o, e, _⟩, _⟩ := x; ⟨o, e⟩
  | tl ls => exact let ⟨_, _, ⟨o, e, _⟩, _⟩ := x; ⟨o, e⟩
  | tri u v n => exact let ⟨_, _, _, ⟨o, e, _⟩, _⟩ := x; ⟨o, e⟩
  | di l => exact DiAt.live x
  | pool l n => exact PoolAt.live x
  | none => exact x.elim
  | bool b => exact x.elim
  | int i => exact x.elim

section
variable {c : Cx} {s₀ : Shared} {B₀ : List Addr} {G : Addr → Option Obj} {env : Env} {B : List Addr} {d : D} {s s' : Shared}

theorem Inv.keeps (I : Inv c s₀ B₀ G env B d s) (k : Keeps s s') : Inv c s₀ B₀ G env B d s' where
  ek := I.ek
  eg := I.eg
  eb := I.eb
  base₀ := I.base₀
  b0 := I.b0
  lv := I.lv
  lk := I.lk
  gk := fun b o e => Kp.get k (I.gk b o e)
  gl := I.gl
  gc := I.gc
  fr := let ⟨m, cm, x, h1, h2⟩ := I.fr; ⟨m, cm, inCallC_kp x k, fun n v e => let ⟨val, a, r⟩ := h1 n v e; ⟨val, a, r.off (Kp.off k _)⟩,
    fun n a v e => let ⟨q1, q2, q3⟩ := h2 n a v e; ⟨q1, q2.keeps fun _ _ e => Kp.get k e, q3⟩⟩

theorem Inv.same (I : Inv c s₀ B₀ G env B d s) : Keeps s₀ s := by
  obtain ⟨m, cm, ⟨⟨⟨h, t, e⟩, hn, hk, hf⟩, _⟩, _⟩ := I.fr
  subst e
  exact ⟨h, t, rfl, hk⟩

theorem Inv.pre (I : Inv c s₀ B₀ G env B d s) : Pre c env d (bx env d B) s where
  ek := I.ek
  eg := I.eg
  eb := I.eb
  base := I.base₀.keeps fun _ _ e => Kp.get I.same e
  live := fun b hb => by
    obtain ⟨m, cm, x, h1, h2⟩ := I.fr
    rcases List.mem_append.mp hb with hb | hb
    · match ho : d.own, hb with
      | some (n, a, v), hb =>
        have hb' : b = a := List.mem_singleton.mp hb
        subst hb'
        exact (h2 n b v ho).2.1.live
      | none, hb => exact nomatch hb
    · rcases List.mem_append.mp hb with hb | hb
      · rcases List.mem_cons.mp hb with rfl | hb
        · obtain ⟨o, _, _, e, _⟩ := x.toInCall.ns
          exact ⟨o, e⟩
        · obtain ⟨⟨n, k⟩, hp, rfl⟩ := List.mem_map.mp hb
          obtain ⟨o, e, _⟩ := x.cell n k (I.lk n k hp)
          exact ⟨o, e⟩
      · obtain ⟨o, e⟩ := I.lv b hb
        exact ⟨o, I.gk b o e⟩
  vw := fun n v e => by
    obtain ⟨m, cm, x, h1, h2⟩ := I.fr
    obtain ⟨val, a, r⟩ := h1 n v e
    refine ⟨val, ?_, r⟩
    rcases a with ⟨a1, a2⟩ | ⟨a1, ⟨k, hk⟩, a3⟩
    · exact .inl ⟨a1, m, x.toInCall.ns, a2⟩
    · exact .inr ⟨a1, k, hk, a3 ▸ x.cell n k hk⟩
  ow := fun n a v e => by
    obtain ⟨m, cm, x, h1, h2⟩ := I.fr
    obtain ⟨q1, q2, q3⟩ := h2 n a v e
    refine ⟨?_, q2⟩
    rcases q1 with ⟨a1, a2⟩ | ⟨a1, ⟨k, hk⟩, a3⟩
    · exact .inl ⟨a1, m, x.toInCall.ns, a2⟩
    · exact .inr ⟨a1, k, hk, a3 ▸ x.cell n k hk⟩

theorem Inv.weak {ρ' : Rho} {o : Option (Str × Addr × V)} (I : Inv c s₀ B₀ G env B d s) (ho : o = d.own) (h : ∀ p ∈ ρ', d.ρ.lookup p.1 = some p.2) : Inv c s₀ B₀ G env B ⟨ρ', o⟩ s := by
  subst ho
  exact
  { ek := I.ek, eg := I.eg, eb := I.eb, base₀ := I.base₀, b0 := I.b0, lv := I.lv, lk := I.lk, gk := I.gk, gl := I.gl, gc := I.gc
    fr := let ⟨m, cm, x, h1, h2⟩ := I.fr; ⟨m, cm, x, fun n v e => h1 n v (h (n, v) (mem_of_lookup e)), h2⟩ }

/- a name is stored -/
theorem Inv.store {M : Model} {A : Around} {E : Value → Shared → Prop} {Q : Unit → Shared → Prop} {x : Str} {v : V} {val : Value} (I : Inv c s₀ B₀ G env B d s) (hk : KindOk env x) (hx : ∀ n a u, d.own = some (n, a, u) → n ≠ x) (r : Rep s.heap (bx env d B) v val)
    (h : ∀ s', (∃ h t, s' = { s with heap := h, toks := t }) → Off (bx env d B) s.heap s'.heap → (∀ b o, G b = some o → s'.heap.get? b = some o) → Inv c s₀ B₀ G env B ⟨(x, v) :: d.ρ, d.own⟩ s' → Q () s') : wpAny M A (storeName env x val) Q E s := by
  obtain ⟨m, cm, X, h1, h2⟩ := I.fr
  have hL : env.locals ∈ bx env d B := List.mem_append.mpr (.inr (List.mem_append.mpr (.inl (List.mem_cons_self ..))))
  have hC : ∀ n k, (n, k) ∈ env.cells → k ∈ bx env d B := fun n k e => List.mem_append.mpr (.inr (List.mem_append.mpr (.inl (List.mem_cons_of_mem _ (List.mem_map.mpr ⟨(n, k), e, rfl⟩)))))
  rcases hk with hk | ⟨hk, k, hck⟩
  · refine wpAny_storeName_local hk X.toInCall.ns (fun h' hn' hs' => ?_) (by rw [I.ek]; rfl)
    have off : Off (bx env d B) s.heap h' := fun b o hb e => hs'.extBut b o (fun e' => hb (e' ▸ hL)) e
    have gk : ∀ b o, G b = some o → h'.get? b = some o := fun b o e => hs'.extBut b o (fun e' => by rw [e', I.gl] at e; cases e) (I.gk b o e)
    refine h _ ⟨_, _, rfl⟩ off gk ⟨I.ek, I.eg, I.eb, I.base₀, I.b0, I.lv, I.lk, gk, I.gl, I.gc, (fun y => if y = x then some val else m y), cm, ⟨⟨?_, hn', fun b o e => ?_, X.toInCall.fresh⟩, fun n k hk => ?_, X.apart, X.above⟩, ?_, ?_⟩
    · obtain ⟨h₁, tk, e⟩ := X.toInCall.same
      rw [e]
      exact ⟨h', _, rfl⟩
    · exact hs'.extBut b o (Nat.ne_of_lt (Nat.lt_of_lt_of_le (Heap.lt_size e) X.toInCall.fresh)) (X.toInCall.keep b o e)
    · exact (X.cell n k hk).sameBut hs' (Nat.ne_of_gt (X.above n k (mem_of_lookup hk)))
    · intro n u e
      rw [List.lookup_cons] at e
      by_cases hn : n = x
      · subst hn
        rw [beq_self_eq_true] at e
        cases e
        exact ⟨val, .inl ⟨hk, if_pos rfl⟩, r.off off⟩
      · rw [beq_eq_false_iff_ne.mpr hn] at e
        obtain ⟨w, a, q⟩ := h1 n u e
        refine ⟨w, ?_, q.off off⟩
        rcases a with ⟨a1, a2⟩ | a
        · exact .inl ⟨a1, (if_neg hn).trans a2⟩
        · exact .inr a
    · intro n a u e
      obtain ⟨q1, q2, q3, q4⟩ := h2 n a u e
      have hne : a ≠ env.locals := fun e' => q3 (e' ▸ List.mem_append.mpr (.inl (List.mem_cons_self ..)))
      refine ⟨?_, ?_, q3, q4⟩
      · rcases q1 with ⟨a1, a2⟩ | q
        · exact .inl ⟨a1, (if_neg (hx n a u e)).trans a2⟩
        · exact .inr q
      · have : Off (env.locals :: []) s.heap h' := fun b o hb e => hs'.extBut b o (fun e' => hb (by rw [e']; exact List.mem_cons_self ..)) e
        exact contOff q2 (fun o e => hs'.extBut a o hne e) off
  · refine wpAny_storeName_cell I.ek hk hck (X.cell x k hck) fun h' hc' hs' => ?_
    have hkL := X.above x k (mem_of_lookup hck)
    have hkb : k ∈ bx env d B := hC x k (mem_of_lookup hck)
    have off : Off (bx env d B) s.heap h' := fun b o hb e => hs'.extBut b o (fun e' => hb (e' ▸ hkb)) e
    have gk : ∀ b o, G b = some o → h'.get? b = some o := fun b o e => hs'.extBut b o (fun e' => by rw [e', I.gc x k (mem_of_lookup hck)] at e; cases e) (I.gk b o e)
    refine h _ ⟨_, s.toks, rfl⟩ off gk ⟨I.ek, I.eg, I.eb, I.base₀, I.b0, I.lv, I.lk, gk, I.gl, I.gc, m, (fun y => if y = x then some val else cm y), ⟨⟨?_, X.toInCall.ns.sameBut hs' (Nat.ne_of_lt hkL), fun b o e => ?_, X.toInCall.fresh⟩, fun n k' hk' => ?_, X.apart, X.above⟩, ?_, ?_⟩
    · obtain ⟨h₁, tk, e⟩ := X.toInCall.same
      rw [e]
      exact ⟨h', _, rfl⟩
    · exact hs'.extBut b o (Nat.ne_of_lt (Nat.lt_trans (Nat.lt_of_lt_of_le (Heap.lt_size e) X.toInCall.fresh) hkL)) (X.toInCall.keep b o e)
    · by_cases hn : n = x
      · subst hn
        rw [hck] at hk'; cases hk'
        simpa using hc'
      · rw [if_neg hn]
        exact (X.cell n k' hk').sameBut hs' fun e => hn (name_of_addr X.apart (mem_of_lookup hk') (e ▸ mem_of_lookup hck))
    · intro n u e
      rw [List.lookup_cons] at e
      by_cases hn : n = x
      · subst hn
        rw [beq_self_eq_true] at e
        cases e
        exact ⟨val, .inr ⟨hk, ⟨k, hck⟩, if_pos rfl⟩, r.off off⟩
      · rw [beq_eq_false_iff_ne.mpr hn] at e
        obtain ⟨w, a, q⟩ := h1 n u e
        refine ⟨w, ?_, q.off off⟩
        rcases a with a | ⟨a1, a2, a3⟩
        · exact .inl a
        · exact .inr ⟨a1, a2, (if_neg hn).trans a3⟩
    · intro n a u e
      obtain ⟨q1, q2, q3, q4⟩ := h2 n a u e
      have hne : a ≠ k := fun e' => q3 (e' ▸ List.mem_append.mpr (.inl (List.mem_cons_of_mem _ (List.mem_map.mpr ⟨(x, k), mem_of_lookup hck, rfl⟩))))
      refine ⟨?_, contOff q2 (fun o e => hs'.extBut a o hne e) off, q3, q4⟩
      rcases q1 with q | ⟨a1, a2, a3⟩
      · exact .inl q
      · exact .inr ⟨a1, a2, (if_neg (hx n a u e)).trans a3⟩
end
end Mine
namespace Mine

abbrev Post := (Addr → Option Obj) → List Addr → Flow → Shared → Prop
def Run (c : Cx) (s₀ : Shared) (B₀ : List Addr) (A : Around) (env : Env) (d : D) (ss : List Stmt) (Q : Post) : Prop :=
  ∀ (G : Addr → Option Obj) (B : List Addr) (s : Shared) (E : Value → Shared → Prop), Inv c s₀ B₀ G env B d s → wpAny (model c.prog c.w) A (execs ss env) (Q G B) E s

def RetOk (Q : Post) (s₀ : Shared) (B : List Addr) (r : V) : Prop := ∀ G B' val s', Keeps s₀ s' → Rep s'.heap B r val → Q G B' (.ret val) s'
def RetQ (s₀ : Shared) (B : List Addr) (r : V) : Post := fun _ _ f s' => Keeps s₀ s' ∧ Rep s'.heap B r (match f with | .ret v => v | _ => .none)
theorem retQ_ok {s₀ : Shared} {B : List Addr} {r : V} : RetOk (RetQ s₀ B r) s₀ B r := fun _ _ _ _ k h => ⟨k, h⟩
/- behind a block: what stands when it goes on; else what stood ahead -/
def JoinQ (c : Cx) (s₀ : Shared) (B₀ : List Addr) (env : Env) (d : D) (Q : Post) : Post := fun G B f s' => match f with
  | .next => Inv c s₀ B₀ G env B d s'
  | f => Q G B f s'
def LoopQ (c : Cx) (s₀ : Shared) (B₀ : List Addr) (env : Env) (P : D → Prop) (Q : Post) : Post := fun G B f s' => match f with
  | .next | .cont => ∃ d, P d ∧ Inv c s₀ B₀ G env B d s'
  | .brk => False
  | .ret v => Q G B (.ret v) s'
theorem joinQ_ok {c : Cx} {s₀ : Shared} {env : Env} {B B' : List Addr} {d : D} {Q : Post} {r : V} (h : RetOk Q s₀ B r) : RetOk (JoinQ c s₀ B' env d Q) s₀ B r := fun G B₂ val s' k r => h G B₂ val s' k r
theorem loopQ_ok {c : Cx} {s₀ : Shared} {env : Env} {B B' : List Addr} {P : D → Prop} {Q : Post} {r : V} (h : RetOk Q s₀ B r) : RetOk (LoopQ c s₀ B' env P Q) s₀ B r := fun G B₂ val s' k r => h G B₂ val s' k r

section
variable {c : Cx} {s₀ : Shared} {B₀ : List Addr} {A : Around} {env : Env} {d : D} {Q : Post} {rest : List Stmt} {pos p : Pos}

theorem run_nil (h : ∀ G B s, Inv c s₀ B₀ G env B d s → Q G B .next s) : Run c s₀ B₀ A env d [] Q := fun G B s E I => wpAny_execs_nil (h G B s I)
theorem run_end {d' : D} (h : SubR d'.ρ d.ρ := by repeat (first | exact trivial | refine ⟨rfl, ?_⟩)) (ho : d'.own = d.own := by rfl) : Run c s₀ B₀ A env d [] (JoinQ c s₀ B₀ env d' Q) := fun G B s E I => wpAny_execs_nil (I.weak (o := d'.own) (ρ' := d'.ρ) ho h.at)
theorem run_loopend {d' : D} {P : D → Prop} (hp : P d') (h : SubR d'.ρ d.ρ := by repeat (first | exact trivial | refine ⟨rfl, ?_⟩)) (ho : d'.own = d.own := by rfl) : Run c s₀ B₀ A env d [] (LoopQ c s₀ B₀ env P Q) := fun G B s E I => wpAny_execs_nil ⟨d', hp, I.weak (o := d'.own) (ρ' := d'.ρ) ho h.at⟩
theorem run_weak {ss : List Stmt} {d' : D} (hr : Run c s₀ B₀ A env d' ss Q) (h : SubR d'.ρ d.ρ := by repeat (first | exact trivial | refine ⟨rfl, ?_⟩)) (ho : d'.own = d.own := by rfl) : Run c s₀ B₀ A env d ss Q :=
  fun G B s E I => hr G B s E (I.weak (o := d'.own) (ρ' := d'.ρ) ho h.at)

theorem run_assign {x : Str} {e : Expr} {v : V} (h : ∀ B, Ev c A env d B e v) (hr : Run c s₀ B₀ A env ⟨(x, v) :: d.ρ, d.own⟩ rest Q)
    (hk : KindOk env x := by first | exact .inl rfl | exact .inr ⟨rfl, _, rfl⟩) (hx : ∀ n a u, d.own = some (n, a, u) → n ≠ x := by intro n a u e; cases e <;> decide) (hs : swapsWith e (some (.Name x p)) pos.line env = pure false := by rfl) : Run c s₀ B₀ A env d (.Assign [.Name x p] e pos :: rest) Q := by
  intro G B s E I
  refine wpAny_execs_cons (wpAny_Assign_Name (h _ s _ _ I.pre fun val s₁ k₁ r₁ => ?_) hs)
  exact (I.keeps k₁).store hk hx r₁ fun s₂ _ _ _ I₂ => hr G B s₂ E I₂

theorem run_return {e : Expr} {v : V} (hQ : RetOk Q s₀ B₀ v) (h : ∀ B, Ev c A env d B e v) : Run c s₀ B₀ A env d (.Return (some e) pos :: rest) Q := by
  intro G B s E I
  refine wpAny_execs_cons (wpAny_Return_some (h _ s _ _ I.pre fun val s₁ k₁ r₁ => ?_))
  exact hQ G B val s₁ (Kp.tr I.same k₁) (r₁.sub fun b hb => List.mem_append.mpr (.inr (List.mem_append.mpr (.inr (I.b0 b hb)))))

theorem run_if {test : Expr} {body orelse : List Stmt} {b : Bool} (ht : ∀ B, Tr c A env d B test b)
    (h1 : b = true → ∃ d', Run c s₀ B₀ A env d body (JoinQ c s₀ B₀ env d' Q) ∧ Run c s₀ B₀ A env d' rest Q)
    (h2 : b = false → ∃ d', Run c s₀ B₀ A env d orelse (JoinQ c s₀ B₀ env d' Q) ∧ Run c s₀ B₀ A env d' rest Q) : Run c s₀ B₀ A env d (.If test body orelse pos :: rest) Q := by
  intro G B s E I
  refine wpAny_execs_cons (wpAny_If (ht _ s _ _ I.pre fun s₁ k₁ => ?_))
  have key : ∀ ss : List Stmt, (∃ d', Run c s₀ B₀ A env d ss (JoinQ c s₀ B₀ env d' Q) ∧ Run c s₀ B₀ A env d' rest Q) →
      wpAny (model c.prog c.w) A (execs ss env) (fun f s' => match f with | .next => wpAny (model c.prog c.w) A (execs rest env) (Q G B) E s' | f => Q G B f s') E s₁ := by
    rintro ss ⟨d', r1, r2⟩
    refine wpAny_mono (r1 G B s₁ E (I.keeps k₁)) (fun f s₂ h => ?_) fun _ _ e => e
    cases f with
    | next => exact r2 G B s₂ E h
    | brk => exact h
    | cont => exact h
    | ret v => exact h
  cases b with
  | true => rw [if_pos rfl]; exact key _ (h1 rfl)
  | false => rw [if_neg Bool.false_ne_true]; exact key _ (h2 rfl)
theorem execs_append (env : Env) : ∀ a b : List Stmt, execs (a ++ b) env = (execs a env >>= fun f => match f with | .next => execs b env | f => pure f)
  | [], b => by
    show execs b env = (pure Flow.next >>= _)
    rw [pure_bind]
  | x :: a, b => by
    show execs (x :: (a ++ b)) env = _
    rw [execs_cons, execs_cons, bind_assoc]
    congr 1
    funext f
    cases f with
    | next => exact execs_append env a b
    | brk => rw [pure_bind]
    | cont => rw [pure_bind]
    | ret v => rw [pure_bind]
/- an if: each way goes on behind its own block -/
theorem run_ifa {test : Expr} {body orelse : List Stmt} {b : Bool} (ht : ∀ B, Tr c A env d B test b)
    (h1 : b = true → Run c s₀ B₀ A env d (body ++ rest) Q) (h2 : b = false → Run c s₀ B₀ A env d (orelse ++ rest) Q) : Run c s₀ B₀ A env d (.If test body orelse pos :: rest) Q := by
  intro G B s E I
  have e : execs (.If test body orelse pos :: rest) env = (standAt pos >>= fun _ => PySem.isTrue test env (eval test env) >>= fun t => if t = true then execs (body ++ rest) env else execs (orelse ++ rest) env) := by
    rw [execs_cons, exec_If, bind_assoc]
    congr 1
    funext _
    rw [bind_assoc]
    congr 1
    funext t
    cases t with
    | true => rw [if_pos rfl, if_pos rfl, execs_append]; congr 1
    | false => rw [if_neg Bool.false_ne_true, if_neg Bool.false_ne_true, execs_append]; congr 1
  rw [e]
  refine wpAny_bind (wpAny_standAt (wpAny_bind (ht _ s _ _ I.pre fun s₁ k₁ => ?_)))
  cases b with
  | true => rw [if_pos rfl]; exact h1 rfl G B s₁ E (I.keeps k₁)
  | false => rw [if_neg Bool.false_ne_true]; exact h2 rfl G B s₁ E (I.keeps k₁)

theorem run_while {σ : Type} (ds : σ → D) (J : Nat → σ → Prop) (cond : σ → Bool) {test : Expr} {body : List Stmt}
    (ht : ∀ n x, J n x → ∀ B, Tr c A env (ds x) B test (cond x))
    (hb : ∀ n x, J n x → cond x = true → Run c s₀ B₀ A env (ds x) body (LoopQ c s₀ B₀ env (fun d' => ∃ m y, m < n ∧ J m y ∧ d' = ds y) Q))
    (hr : ∀ n x, J n x → cond x = false → Run c s₀ B₀ A env (ds x) rest Q)
    (n : Nat) (x : σ) (h0 : J n x) (hw : SubR (ds x).ρ d.ρ := by repeat (first | exact trivial | refine ⟨rfl, ?_⟩)) (ho : (ds x).own = d.own := by rfl) : Run c s₀ B₀ A env d (.While test body [] pos :: rest) Q := by
  intro G B s E I
  refine wpAny_execs_cons (wpAny_While ?_)
  refine codeAny_whileLoop (fun k s' => ∃ y, J k y ∧ Inv c s₀ B₀ G env B (ds y) s') ?_ n ⟨x, h0, I.weak (o := (ds x).own) (ρ' := (ds x).ρ) ho hw.at⟩
  rintro k s' ⟨y, hy, Iy⟩
  refine ht k y hy _ s' _ _ Iy.pre fun s₁ k₁ => ?_
  cases hc : cond y with
  | true =>
    rw [if_pos rfl]
    refine wpAny_mono (hb k y hy hc G B s₁ _ (Iy.keeps k₁)) (fun f s₂ h => ?_) fun _ _ e => e
    cases f with
    | next => obtain ⟨d', ⟨m, z, hm, hz, rfl⟩, I₂⟩ := h; exact ⟨m, hm, z, hz, I₂⟩
    | cont => obtain ⟨d', ⟨m, z, hm, hz, rfl⟩, I₂⟩ := h; exact ⟨m, hm, z, hz, I₂⟩
    | brk => exact h.elim
    | ret v => exact h
  | false =>
    rw [if_neg Bool.false_ne_true]
    exact wpAny_execs_nil (hr k y hy hc G B s₁ E (Iy.keeps k₁))

theorem run_freeze {x : Str} {a : Addr} {v : V} {ss : List Stmt} (ho : d.own = some (x, a, v)) (hv : ∀ h B a, Cont h B v a → a ∉ B → Rep h B v (.ref a)) (hr : Run c s₀ B₀ A env ⟨(x, v) :: d.ρ, none⟩ ss Q) : Run c s₀ B₀ A env d ss Q := by
  intro G B s E I
  refine hr G B s E { ek := I.ek, eg := I.eg, eb := I.eb, base₀ := I.base₀, b0 := I.b0, lv := I.lv, lk := I.lk, gk := I.gk, gl := I.gl, gc := I.gc, fr := ?_ }
  obtain ⟨m, cm, X, h1, h2⟩ := I.fr
  obtain ⟨q1, q2, q3, q4⟩ := h2 x a v ho
  have sub : ∀ b ∈ bx env ⟨(x, v) :: d.ρ, none⟩ B, b ∈ bx env d B := fun b hb => List.mem_append.mpr (.inr hb)
  refine ⟨m, cm, X, fun n u e => ?_, fun _ _ _ e => nomatch e⟩
  rw [List.lookup_cons] at e
  by_cases hn : n = x
  · subst hn
    rw [beq_self_eq_true] at e
    cases e
    exact ⟨_, q1, hv _ _ _ (q2.sub sub) q3⟩
  · rw [beq_eq_false_iff_ne.mpr hn] at e
    obtain ⟨w, a1, a2⟩ := h1 n u e
    exact ⟨w, a1, a2.sub sub⟩
theorem rep_of_li {l : List Int} : ∀ h B a, Cont h B (.li l) a → a ∉ B → Rep h B (.li l) (.ref a) := fun _ _ _ x hb => ⟨_, rfl, hb, x⟩
theorem rep_of_ll {l : List (List Int)} : ∀ h B a, Cont h B (.ll l) a → a ∉ B → Rep h B (.ll l) (.ref a) := fun _ _ _ x hb => ⟨_, rfl, hb, x⟩
end
end Mine
namespace Mine

theorem walks_imp {prog : Program} {w : World} {A : Around} {I : Addr} {fp wr : List Addr} {n m : Nat} {P P' : Nat → Value → Prop} {St : Nat → Heap → Prop} (W : Walks prog w A I fp wr n P St) (e : n = m) (h : ∀ i v, i < n → P i v → P' i v) : Walks prog w A I fp wr m P' St := by
  subst e
  exact ⟨W.sub, W.frame, fun i s Q E hi st hQ => W.item i s Q E hi st fun v h' tk p => hQ v h' tk (h i v hi p), W.done, W.self⟩

def It (c : Cx) (A : Around) (env : Env) (d : D) (B : List Addr) (e : Expr) (xs : List V) : Prop :=
  ∀ (s : Shared) (E Q : Value → Shared → Prop), Pre c env d B s →
    (∀ s₁ s₂ I fp wr St, Keeps s s₁ → Keeps s₁ s₂ → Walks c.prog c.w A I fp wr xs.length (fun i v => ∃ x, xs[i]? = some x ∧ Rep s₁.heap B x v) St → xs.length ≤ sizeLine → St 0 s₂.heap → (∀ b ∈ fp, ∃ o, s₂.heap.get? b = some o) →
      (∀ b ∈ fp, b ∉ B) → (∀ b ∈ wr, s₁.heap.get? b = none) → (∀ i h, St i h → ∀ b ∈ wr, ∃ o, h.get? b = some o) → Q (.ref I) s₂) →
    wpAny (model c.prog c.w) A (eval e env) (fun xv s₁ => wpAny (model c.prog c.w) A (pyIter xv) Q E s₁) E s

section
variable {c : Cx} {A : Around} {env : Env} {d : D} {B : List Addr} {pos p q : Pos}

theorem ints_item {h : Heap} {vs : Array Value} {l : List Int} (hi : IntsAre vs.toList l) {i : Nat} {v : Value} (e : vs[i]? = some v) : ∃ x, (l.map V.int)[i]? = some x ∧ Rep h B x v := by
  obtain ⟨n, t, rfl, hn⟩ := hi.at i v (by simpa using e)
  exact ⟨.int n, by simp [hn], t, rfl⟩
theorem rows_item {h : Heap} : ∀ {vs : List Value} {ls : List (List Int)}, RowsAre h B vs ls → ∀ {i : Nat} {v : Value}, vs[i]? = some v → ∃ x, (ls.map V.li)[i]? = some x ∧ Rep h B x v
  | _, _, .nil, i, v, e => by simp at e
  | _, _, .cons x r, 0, v, e => by simp at e; subst e; exact ⟨_, rfl, _, rfl, x.1, x.2⟩
  | _, _, .cons x r, i + 1, v, e => by simpa using rows_item r (by simpa using e)

theorem it_seq {e : Expr} {v : V} {xs : List V} (hh : A.handled = none) (h : Ev c A env d B e v)
    (hv : ∀ (h : Heap) (val : Value), Rep h B v val → ∃ (a : Addr) (vs : Array Value), val = .ref a ∧ a ∉ B ∧ h.IsList a vs ∧ vs.size = xs.length ∧ LenOk xs.length ∧ ∀ (i : Nat) (v : Value), vs[i]? = some v → ∃ x, xs[i]? = some x ∧ Rep h B x v) : It c A env d B e xs := by
  intro s E Q P hQ
  refine h s _ _ P fun val s₁ k₁ r₁ => ?_
  obtain ⟨a, vs, rfl, hb, hp, hsz, hl, hit⟩ := hv _ _ r₁
  have hne : a ≠ s₁.heap.objs.size := by
    obtain ⟨o, ho, _⟩ := hp
    exact Nat.ne_of_lt (Heap.lt_size ho)
  have kk := push_kp (s := s₁) { cls := .type "list_iterator", data := .fields #[.ref a, .int 0 0] }
  refine wpAny_pyIter_list hp (hQ s₁ _ s₁.heap.objs.size _ _ _ k₁ kk (walks_imp (Walks.list hh s₁.heap.objs.size a hne vs) hsz fun i v _ e => hit i v e) hl.line ⟨⟨_, Heap.get?_push_size _ rfl, rfl, rfl⟩, hp.push _⟩ ?_ ?_ ?_ fun i h st b hb' => by rw [List.mem_singleton.mp hb']; exact let ⟨o, e, _⟩ := st.1; ⟨o, e⟩)
  · intro b hb'
    rcases List.mem_cons.mp hb' with rfl | hb'
    · exact ⟨_, Heap.get?_push_size _ rfl⟩
    · rw [List.mem_singleton.mp hb']
      obtain ⟨o, ho, _⟩ := hp.push { cls := .type "list_iterator", data := .fields #[.ref a, .int 0 0] }
      exact ⟨o, ho⟩
  · intro b hb'
    rcases List.mem_cons.mp hb' with rfl | hb'
    · exact (P.keeps k₁).fresh get_size
    · rw [List.mem_singleton.mp hb']; exact hb
  · intro b hb'
    rw [List.mem_singleton.mp hb']
    exact get_size
theorem it_li {e : Expr} {l : List Int} (hh : A.handled = none) (h : Ev c A env d B e (.li l)) : It c A env d B e (l.map V.int) :=
  it_seq hh h fun h val r => by
    obtain ⟨a, rfl, hb, hl, vs, hp, hi⟩ := r
    have := hi.length
    exact ⟨a, vs, rfl, hb, hp, by simpa using this, by simpa using hl, fun i v e => ints_item hi e⟩
theorem it_ll {e : Expr} {l : List (List Int)} (hh : A.handled = none) (h : Ev c A env d B e (.ll l)) : It c A env d B e (l.map V.li) :=
  it_seq hh h fun h val r => by
    obtain ⟨a, rfl, hb, hl, vs, hp, hi⟩ := r
    have := hi.length
    exact ⟨a, vs, rfl, hb, hp.isList, by simpa using this, by simpa using hl, fun i v e => rows_item hi (by simpa using e)⟩
theorem it_ti {e : Expr} {l : List Int} (hh : A.handled = none) (h : Ev c A env d B e (.ti l)) : It c A env d B e (l.map V.int) := by
  intro s E Q P hQ
  refine h s _ _ P fun val s₁ k₁ r₁ => ?_
  obtain ⟨a, rfl, hb, hl, vs, hp, hi⟩ := r₁
  have hsz := hi.length
  have hne : a ≠ s₁.heap.objs.size := by
    obtain ⟨o, ho, _⟩ := hp
    exact Nat.ne_of_lt (Heap.lt_size ho)
  have kk := push_kp (s := s₁) { cls := .type "tuple_iterator", data := .fields #[.ref a, .int 0 0] }
  have hp' : s₁.heap.IsTuple a vs := hp
  refine wpAny_pyIter_tuple hp' (hQ s₁ _ s₁.heap.objs.size _ _ _ k₁ kk (walks_imp (Walks.tuple hh s₁.heap.objs.size a hne vs) (by simpa using hsz) fun i v _ e => ints_item hi e) (by simpa using hl.line) ⟨⟨_, Heap.get?_push_size _ rfl, rfl, rfl⟩, hp'.at fun o e => Heap.get?_push_of_some _ e⟩ ?_ ?_ ?_ fun i h st b hb' => by rw [List.mem_singleton.mp hb']; exact let ⟨o, e, _⟩ := st.1; ⟨o, e⟩)
  · intro b hb'
    rcases List.mem_cons.mp hb' with rfl | hb'
    · exact ⟨_, Heap.get?_push_size _ rfl⟩
    · rw [List.mem_singleton.mp hb']
      obtain ⟨o, ho, _⟩ := hp
      exact ⟨o, Heap.get?_push_of_some _ ho⟩
  · intro b hb'
    rcases List.mem_cons.mp hb' with rfl | hb'
    · exact (P.keeps k₁).fresh get_size
    · rw [List.mem_singleton.mp hb']; exact hb
  · intro b hb'
    rw [List.mem_singleton.mp hb']
    exact get_size

/- range(n), range(a, b) -/
theorem it_range {s₁ : Shared} {E Q : Value → Shared → Prop} {a b : Int} {t u v : Tok} {r : Addr} {n : Nat} {s : Shared} (hh : A.handled = none) (P : Pre c env d B s) (k : Keeps s s₁) (hr : IsRange s₁.heap r a b 1 t u v) (hn : (b - a).toNat = n) (hl : LenOk n) (ha : -4096 ≤ a ∧ a ≤ 4096) (hb : -(2 ^ 62) ≤ b)
    (hQ : ∀ s₁ s₂ I fp wr St, Keeps s s₁ → Keeps s₁ s₂ → Walks c.prog c.w A I fp wr n (fun i v => ∃ x, ((List.range n).map fun (i : Nat) => V.int (a + (i : Int)))[i]? = some x ∧ Rep s₁.heap B x v) St → n ≤ sizeLine → St 0 s₂.heap → (∀ b ∈ fp, ∃ o, s₂.heap.get? b = some o) →
      (∀ b ∈ fp, b ∉ B) → (∀ b ∈ wr, s₁.heap.get? b = none) → (∀ i h, St i h → ∀ b ∈ wr, ∃ o, h.get? b = some o) → Q (.ref I) s₂) : wpAny (model c.prog c.w) A (pyIter (.ref r)) Q E s₁ := by
  have hsz : Builtin.Range.rangeSize a b 1 = (n : Int) := by
    unfold Builtin.Range.rangeSize
    simp
    omega
  have hsm : Builtin.Range.small a b 1 = true := by
    unfold LenOk at hl
    exact small_one (by omega) (by omega) hb (by omega)
  have kk := push_kp (s := s₁) { cls := .type "range_iterator", data := .fields #[rawInt a, rawInt (Builtin.Range.rangeSize a b 1), rawInt 1] }
  refine wpAny_pyIter_range hr hsm (hQ s₁ _ s₁.heap.objs.size _ _ _ k kk (walks_imp (Walks.range hh s₁.heap.objs.size a 1 n) rfl fun i v hi e => ?_) hl.line ?_ ?_ ?_ ?_ fun i h st b hb' => by rw [List.mem_singleton.mp hb']; exact ⟨_, st⟩)
  · obtain ⟨t, rfl⟩ := e
    refine ⟨V.int (a + (i : Int)), by simp [hi], ?_⟩
    show ∃ t', _
    exact ⟨t, by rw [Int.mul_one]⟩
  · show IsRangeIter _ _ _ _ _
    rw [hsz]
    simpa using Heap.get?_push_size s₁.heap (o := { cls := .type "range_iterator", data := .fields #[rawInt a, rawInt n, rawInt 1] }) rfl
  · intro b hb'
    rw [List.mem_singleton.mp hb']
    exact ⟨_, Heap.get?_push_size _ rfl⟩
  · intro b hb'
    rw [List.mem_singleton.mp hb']
    exact (P.keeps k).fresh get_size
  · intro b hb'
    rw [List.mem_singleton.mp hb']
    exact get_size
end
end Mine
namespace Mine
section
variable {c : Cx} {A : Around} {env : Env} {d : D} {B : List Addr} {pos p q : Pos}

def upto (a : Int) (n : Nat) : List V := (List.range n).map fun (i : Nat) => V.int (a + (i : Int))
theorem upto_length (a : Int) (n : Nat) : (upto a n).length = n := by simp [upto]

theorem it_range1 {e : Expr} {k : Int} {n : Nat} (hh : A.handled = none) (h : Ev c A env d B e (.int k)) (hn : k.toNat = n) (hl : LenOk n) (hlo : -(2 ^ 62) ≤ k) (hkind : env.kindOf "range" = some .globalImplicit := by rfl) (hes : starEach [e] env = (false, eval e env) :: starEach [] env := by rfl) :
    It c A env d B (.Call (.Name "range" q) [e] [] p) (upto 0 n) := by
  intro s E Q P hQ
  refine ev_tcall (id := "range") (vs := [.int k]) P (by decide) boot_range hkind (evl_cons h evl_nil hes) ⟨_, _, rfl, hes⟩ (by rw [hes]; rfl) (by decide) (by decide) fun vals s₁ k₁ r₁ => ?_
  obtain ⟨v, rfl, r1⟩ := repl1 r₁
  obtain ⟨t, rfl⟩ := r1
  refine call_range_1 ?_
  have kk : Keeps s₁ { s₁ with heap := s₁.heap.push { cls := .type "range", data := .fields #[.int 0 s₁.toks, .int k t, .int 1 (s₁.toks + 1)] }, toks := s₁.toks + 1 + 1 } := Kp.heap fun b o e => Heap.get?_push_of_some _ e
  rw [upto_length] at hQ
  exact it_range (a := 0) (b := k) (n := n) hh P (Kp.tr k₁ kk) (Heap.get?_push_size _ rfl) (by simpa using hn) hl (by omega) hlo hQ
theorem it_range2 {e1 e2 : Expr} {a b : Int} {n : Nat} (hh : A.handled = none) (h1 : Ev c A env d B e1 (.int a)) (h2 : Ev c A env d B e2 (.int b)) (hn : (b - a).toNat = n) (hl : LenOk n) (ha : -4096 ≤ a ∧ a ≤ 4096) (hlo : -(2 ^ 62) ≤ b) (hkind : env.kindOf "range" = some .globalImplicit := by rfl)
    (hes : starEach [e1, e2] env = (false, eval e1 env) :: starEach [e2] env := by rfl) (hes2 : starEach [e2] env = (false, eval e2 env) :: starEach [] env := by rfl) :
    It c A env d B (.Call (.Name "range" q) [e1, e2] [] p) (upto a n) := by
  intro s E Q P hQ
  refine ev_tcall (id := "range") (vs := [.int a, .int b]) P (by decide) boot_range hkind (evl_cons h1 (evl_cons h2 evl_nil hes2) hes) ⟨_, _, rfl, hes⟩ (by rw [hes, hes2]; rfl) (by decide) (by decide) fun vals s₁ k₁ r₁ => ?_
  obtain ⟨v, w, rfl, r1, r2⟩ := repl2 r₁
  obtain ⟨t, rfl⟩ := r1
  obtain ⟨u, rfl⟩ := r2
  refine call_range_2 ?_
  have kk : Keeps s₁ { s₁ with heap := s₁.heap.push { cls := .type "range", data := .fields #[.int a t, .int b u, .int 1 s₁.toks] }, toks := s₁.toks + 1 } := Kp.heap fun b o e => Heap.get?_push_of_some _ e
  rw [upto_length] at hQ
  exact it_range hh P (Kp.tr k₁ kk) (Heap.get?_push_size _ rfl) hn hl ha hlo hQ
theorem it_rev {e : Expr} {l : List Int} (hh : A.handled = none) (h : Ev c A env d B e (.li l)) (hkind : env.kindOf "reversed" = some .globalImplicit := by rfl) (hes : starEach [e] env = (false, eval e env) :: starEach [] env := by rfl) :
    It c A env d B (.Call (.Name "reversed" q) [e] [] p) (l.reverse.map V.int) := by
  intro s E Q P hQ
  refine ev_tcall (id := "reversed") (vs := [.li l]) P (by decide) boot_reversed hkind (evl_cons h evl_nil hes) ⟨_, _, rfl, hes⟩ (by rw [hes]; rfl) (by decide) (by decide) fun vals s₁ k₁ r₁ => ?_
  obtain ⟨v, rfl, r1⟩ := repl1 r₁
  obtain ⟨a, rfl, hb, hl, vs, hp, hi⟩ := r1
  have hsz := hi.length
  simp only [Array.length_toList] at hsz
  refine call_reversed_list hp ?_
  have hne : a ≠ s₁.heap.objs.size := by
    obtain ⟨o, ho, _⟩ := hp
    exact Nat.ne_of_lt (Heap.lt_size ho)
  have kk := push_kp (s := s₁) (revObj a ((vs.size : Int) - 1))
  have hit : (s₁.heap.push (revObj a ((vs.size : Int) - 1))).IsRevIter s₁.heap.objs.size a ((vs.size : Int) - 1) := ⟨_, Heap.get?_push_size _ rfl, rfl, rfl⟩
  refine wpAny_pyIter_revIter hit (hQ s₁ _ s₁.heap.objs.size _ _ _ k₁ kk (walks_imp (Walks.listRev hh s₁.heap.objs.size a hne vs) (by simp [hsz]) fun i v hlt e => ?_) (by simpa using hl.line) ⟨Nat.zero_le _, by simpa using hit, hp.push _⟩ ?_ ?_ ?_ fun i h st b hb' => by rw [List.mem_singleton.mp hb']; exact let ⟨o, e, _⟩ := st.2.1; ⟨o, e⟩)
  · obtain ⟨n, t, rfl, hn⟩ := hi.at (vs.size - 1 - i) v (by simpa using e)
    refine ⟨V.int n, ?_, t, rfl⟩
    have : i < l.length := by omega
    rw [List.getElem?_map, List.getElem?_reverse this, show l.length - 1 - i = vs.size - 1 - i by omega, hn]
    rfl
  · intro b hb'
    rcases List.mem_cons.mp hb' with rfl | hb'
    · exact ⟨_, Heap.get?_push_size _ rfl⟩
    · rw [List.mem_singleton.mp hb']
      obtain ⟨o, ho, _⟩ := hp
      exact ⟨o, Heap.get?_push_of_some _ ho⟩
  · intro b hb'
    rcases List.mem_cons.mp hb' with rfl | hb'
    · exact (P.keeps k₁).fresh get_size
    · rw [List.mem_singleton.mp hb']; exact hb
  · intro b hb'
    rw [List.mem_singleton.mp hb']
    exact get_size
end

/- the strongest frozen part -/
def gmax (env : Env) (d : D) (h : Heap) : Addr → Option Obj := fun b => if b ∈ ownA d.own ++ (env.locals :: env.cells.map (·.2)) then none else h.get? b

section
variable {c : Cx} {s₀ s : Shared} {B₀ : List Addr} {G G' : Addr → Option Obj} {env : Env} {B B' : List Addr} {d : D}
theorem Inv.gnone (I : Inv c s₀ B₀ G env B d s) : ∀ b ∈ ownA d.own ++ (env.locals :: env.cells.map (·.2)), G b = none ∧ s₀.heap.get? b = none := by
  intro b hm
  obtain ⟨m, cm, X, h1, h2⟩ := I.fr
  rcases List.mem_append.mp hm with hm | hm
  · match ho : d.own, hm with
    | some (n, a, v), hm =>
      have hb' : b = a := List.mem_singleton.mp hm
      rw [hb']
      exact (h2 n a v ho).2.2.2
    | none, hm => exact nomatch hm
  · have old : ∀ b, s₀.heap.objs.size ≤ b → s₀.heap.get? b = none := fun b hb => by
      cases e : s₀.heap.get? b with
      | none => rfl
      | some o => exact absurd (Heap.lt_size e) (Nat.not_lt.mpr hb)
    rcases List.mem_cons.mp hm with rfl | hm
    · exact ⟨I.gl, old _ X.toInCall.fresh⟩
    · obtain ⟨⟨n, k⟩, hp, rfl⟩ := List.mem_map.mp hm
      exact ⟨I.gc n k hp, old _ (Nat.le_of_lt (Nat.lt_of_le_of_lt X.toInCall.fresh (X.above n k hp)))⟩
/- the heap is turned at places of B alone; another frozen part, other bad places -/
theorem Inv.shift {h₁ : Heap} {tk : Nat} {wr : List Addr} (I : Inv c s₀ B₀ G env B d s) (hwB : ∀ b ∈ wr, b ∈ B ∧ s₀.heap.get? b = none ∧ b ∉ ownA d.own ++ (env.locals :: env.cells.map (·.2))) (hk : ∀ b o, b ∉ wr → s.heap.get? b = some o → h₁.get? b = some o)
    (hB : ∀ b ∈ B', b ∈ B) (hB0 : ∀ b ∈ B₀, b ∈ B') (lv : ∀ b ∈ B', ∃ o, G' b = some o) (gk : ∀ b o, G' b = some o → h₁.get? b = some o) (ga : ∀ b ∈ ownA d.own ++ (env.locals :: env.cells.map (·.2)), G' b = none) :
    Inv c s₀ B₀ G' env B' d { s with heap := h₁, toks := tk } := by
  have sub : ∀ b ∈ bx env d B', b ∈ bx env d B := fun b hb => by
    unfold bx at hb ⊢
    rcases List.mem_append.mp hb with hb | hb
    · exact List.mem_append.mpr (.inl hb)
    · rcases List.mem_append.mp hb with hb | hb
      · exact List.mem_append.mpr (.inr (List.mem_append.mpr (.inl hb)))
      · exact List.mem_append.mpr (.inr (List.mem_append.mpr (.inr (hB b hb))))
  have off : Off (bx env d B) s.heap h₁ := fun b o hb e => hk b o (fun hm => hb (List.mem_append.mpr (.inr (List.mem_append.mpr (.inr (hwB b hm).1))))) e
  have hL : env.locals ∉ wr := fun hm => (hwB _ hm).2.2 (List.mem_append.mpr (.inr (List.mem_cons_self ..)))
  have hC : ∀ n k, (n, k) ∈ env.cells → k ∉ wr := fun n k hp hm => (hwB _ hm).2.2 (List.mem_append.mpr (.inr (List.mem_cons_of_mem _ (List.mem_map.mpr ⟨(n, k), hp, rfl⟩))))
  have hO : ∀ n a v, d.own = some (n, a, v) → a ∉ wr := fun n a v e hm => (hwB _ hm).2.2 (List.mem_append.mpr (.inl (by rw [e]; exact List.mem_cons_self ..)))
  refine { ek := I.ek, eg := I.eg, eb := I.eb, base₀ := I.base₀, b0 := hB0, lv := lv, lk := I.lk, gk := gk, gl := ?_, gc := fun n k hp => ?_, fr := ?_ }
  · exact ga _ (List.mem_append.mpr (.inr (List.mem_cons_self ..)))
  · exact ga _ (List.mem_append.mpr (.inr (List.mem_cons_of_mem _ (List.mem_map.mpr ⟨(n, k), hp, rfl⟩))))
  · obtain ⟨m, cm, X, h1, h2⟩ := I.fr
    refine ⟨m, cm, ?_, fun n v e => ?_, fun n a v e => ?_⟩
    · obtain ⟨⟨⟨h, t, e⟩, hn, hkk, hf⟩, hc, ha, hl⟩ := X
      refine ⟨⟨⟨h₁, tk, by rw [e]⟩, hn.at' fun o e' => hk _ o hL e', fun b o e' => hk b o (fun hm => ?_) (hkk b o e'), hf⟩, fun n q hq => ?_, ha, hl⟩
      · rw [(hwB b hm).2.1] at e'; cases e'
      · obtain ⟨o, ho', hd⟩ := hc n q hq
        exact ⟨o, hk q o (hC n q (mem_of_lookup hq)) ho', hd⟩
    · obtain ⟨val, a, r⟩ := h1 n v e
      exact ⟨val, a, (r.off off).sub sub⟩
    · obtain ⟨q1, q2, q3, q4, q5⟩ := h2 n a v e
      refine ⟨q1, (contOff q2 (fun o e' => hk a o (hO n a v e) e') off).sub sub, fun hm => q3 ?_, ga a (by rw [e]; exact List.mem_append.mpr (.inl (List.mem_cons_self ..))), q5⟩
      rcases List.mem_append.mp hm with hm | hm
      · exact List.mem_append.mpr (.inl hm)
      · exact List.mem_append.mpr (.inr (hB a hm))
/- a wider list of bad places: those that were not there when the values came -/
theorem Rep.wide {h : Heap} {wr : List Addr} (hw : ∀ b ∈ wr, h.get? b = none) : ∀ {v : V} {x : Value}, Rep h B v x → Rep h (wr ++ B) v x := by
  have ia : ∀ {l : List Int} {a : Addr}, IntsAt h B l a → IntsAt h (wr ++ B) l a := fun x => ⟨fun hm => by
    rcases List.mem_append.mp hm with hm | hm
    · obtain ⟨_, _, vs, ⟨o, ho, _⟩, _⟩ := x
      rw [hw _ hm] at ho; cases ho
    · exact x.1 hm, x.2⟩
  have ra : ∀ {vs : List Value} {ls : List (List Int)}, RowsAre h B vs ls → RowsAre h (wr ++ B) vs ls := fun r => by
    induction r with
    | nil => exact .nil
    | cons x r ih => exact .cons (ia x) ih
  have ob : ∀ {a : Addr} {o : Obj}, h.get? a = some o → a ∉ B → a ∉ wr ++ B := fun e hb hm => by
    rcases List.mem_append.mp hm with hm | hm
    · rw [hw _ hm] at e; cases e
    · exact hb hm
  intro v x r
  cases v with
  | none => exact r
  | bool b => exact r
  | int i => exact r
  | li l => exact let ⟨a, e, hb, hl, vs, hp, hi⟩ := r; let ⟨o, ho, _⟩ := id hp; ⟨a, e, ob ho hb, hl, vs, hp, hi⟩
  | ll l => exact let ⟨a, e, hb, hl, vs, hp, hi⟩ := r; let ⟨n, ho⟩ := id hp; ⟨a, e, ob ho hb, hl, vs, hp, ra hi⟩
  | ti l => exact let ⟨a, e, hb, hl, vs, hp, hi⟩ := r; let ⟨o, ho, _⟩ := id hp; ⟨a, e, ob ho hb, hl, vs, hp, hi⟩
  | tl l => exact let ⟨a, e, hb, hl, vs, hp, hi⟩ := r; let ⟨o, ho, _⟩ := id hp; ⟨a, e, ob ho hb, hl, vs, hp, ra hi⟩
  | tri u v n => exact let ⟨a, e, hb, p, q, t, hp, h1, h2⟩ := r; let ⟨o, ho, _⟩ := id hp; ⟨a, e, ob ho hb, p, q, t, hp, ia h1, ia h2⟩
  | di l => exact let ⟨a, e, hb, c⟩ := r; let ⟨o, ho⟩ := DiAt.live c; ⟨a, e, ob ho hb, DiAt.move c (fun _ e => e) fun _ _ y => ia y⟩
  | pool l n => exact let ⟨a, e, hb, c⟩ := r; let ⟨o, ho⟩ := PoolAt.live c; ⟨a, e, ob ho hb, PoolAt.move c (fun _ e => e) fun _ _ y => ia y⟩
theorem Cont.wide {h : Heap} {wr : List Addr} (hw : ∀ b ∈ wr, h.get? b = none) {v : V} {a : Addr} (x : Cont h B v a) : Cont h (wr ++ B) v a := by
  have ia : ∀ {l : List Int} {a : Addr}, IntsAt h B l a → IntsAt h (wr ++ B) l a := fun x => ⟨fun hm => by
    rcases List.mem_append.mp hm with hm | hm
    · obtain ⟨_, _, vs, ⟨o, ho, _⟩, _⟩ := x
      rw [hw _ hm] at ho; cases ho
    · exact x.1 hm, x.2⟩
  have ra : ∀ {vs : List Value} {ls : List (List Int)}, RowsAre h B vs ls → RowsAre h (wr ++ B) vs ls := fun r => by
    induction r with
    | nil => exact .nil
    | cons x r ih => exact .cons (ia x) ih
  cases v with
  | li l => exact x
  | ll l => exact let ⟨hl, vs, hp, hi⟩ := x; ⟨hl, vs, hp, ra hi⟩
  | ti l => exact x
  | tl l => exact let ⟨hl, vs, hp, hi⟩ := x; ⟨hl, vs, hp, ra hi⟩
  | tri u v n => exact let ⟨p, q, t, hp, h1, h2⟩ := x; ⟨p, q, t, hp, ia h1, ia h2⟩
  | di l => exact DiAt.move x (fun _ e => e) fun _ _ y => ia y
  | pool l n => exact PoolAt.move x (fun _ e => e) fun _ _ y => ia y
  | none => exact x.elim
  | bool b => exact x.elim
  | int i => exact x.elim
theorem bx_wide {wr : List Addr} {b : Addr} : b ∈ bx env d (wr ++ B) ↔ b ∈ wr ++ bx env d B := by
  unfold bx
  simp only [List.mem_append]
  constructor
  · rintro (h | h | h | h)
    · exact .inr (.inl h)
    · exact .inr (.inr (.inl h))
    · exact .inl h
    · exact .inr (.inr (.inr h))
  · rintro (h | h | h | h)
    · exact .inr (.inr (.inl h))
    · exact .inl h
    · exact .inr (.inl h)
    · exact .inr (.inr (.inr h))
/- new objects come, of which some are bad -/
theorem Inv.widen {s' : Shared} {wr : List Addr} (I : Inv c s₀ B₀ G env B d s) (k : Keeps s s') (hw : ∀ b ∈ wr, s.heap.get? b = none) (lv : ∀ b ∈ wr ++ B, ∃ o, G' b = some o) (gk : ∀ b o, G' b = some o → s'.heap.get? b = some o) (ga : ∀ b ∈ ownA d.own ++ (env.locals :: env.cells.map (·.2)), G' b = none) :
    Inv c s₀ B₀ G' env (wr ++ B) d s' := by
  have P := I.pre
  refine { ek := I.ek, eg := I.eg, eb := I.eb, base₀ := I.base₀, b0 := fun b hb => List.mem_append.mpr (.inr (I.b0 b hb)), lv := lv, lk := I.lk, gk := gk, gl := ?_, gc := fun n k hp => ?_, fr := ?_ }
  · exact ga _ (List.mem_append.mpr (.inr (List.mem_cons_self ..)))
  · exact ga _ (List.mem_append.mpr (.inr (List.mem_cons_of_mem _ (List.mem_map.mpr ⟨(n, k), hp, rfl⟩))))
  · obtain ⟨m, cm, X, h1, h2⟩ := I.fr
    refine ⟨m, cm, inCallC_kp X k, fun n v e => ?_, fun n a v e => ?_⟩
    · obtain ⟨val, a, r⟩ := h1 n v e
      exact ⟨val, a, ((Rep.wide hw r).sub fun b hb => bx_wide.mp hb).off (Kp.off k _)⟩
    · obtain ⟨q1, q2, q3, q4, q5⟩ := h2 n a v e
      refine ⟨q1, ((Cont.wide hw q2).sub fun b hb => bx_wide.mp hb).keeps fun _ _ e => Kp.get k e, fun hm => ?_, ga a (by rw [e]; exact List.mem_append.mpr (.inl (List.mem_cons_self ..))), q5⟩
      rcases List.mem_append.mp hm with hm | hm
      · exact q3 (List.mem_append.mpr (.inl hm))
      · rcases List.mem_append.mp hm with hm | hm
        · obtain ⟨o, ho⟩ := q2.live
          rw [hw a hm] at ho; cases ho
        · exact q3 (List.mem_append.mpr (.inr hm))
end

/- a loop's ground: the iterator's objects are bad and frozen, all else that stands is frozen -/
def gloop (env : Env) (d : D) (h₁ : Heap) (fp : List Addr) (h : Heap) : Addr → Option Obj := fun b => if b ∈ fp then h.get? b else gmax env d h₁ b

section
variable {c : Cx} {s₀ : Shared} {B₀ : List Addr} {A : Around} {env : Env} {d : D} {Q : Post} {rest : List Stmt} {pos p : Pos}

structure Ground' (c : Cx) (s₀ : Shared) (B₀ : List Addr) (env : Env) (B : List Addr) (d : D) (s₁ : Shared) (fp wr : List Addr) (ds : Nat → D) : Prop where
  wf : ∀ b ∈ wr, b ∈ fp
  fB : ∀ b ∈ fp, b ∉ bx env d B
  wn : ∀ b ∈ wr, s₁.heap.get? b = none
  own : ∀ i, ownA (ds i).own = ownA d.own
  old : Keeps s₀ s₁
  bl : ∀ b ∈ B, ∃ o, s₁.heap.get? b = some o
  bn : ∀ b ∈ B, b ∉ ownA d.own ++ (env.locals :: env.cells.map (·.2))
  b0 : ∀ b ∈ B₀, b ∈ B

theorem Ground'.step {B : List Addr} {s₁ s' : Shared} {fp wr : List Addr} {ds : Nat → D} (Gd : Ground' c s₀ B₀ env B d s₁ fp wr ds) {i : Nat} (I : Inv c s₀ B₀ (gloop env d s₁.heap fp s'.heap) env (wr ++ B) (ds i) s') {h₁ : Heap} {tk : Nat}
    (hk : ∀ b o, b ∉ wr → s'.heap.get? b = some o → h₁.get? b = some o) (hl : ∀ b ∈ wr, ∃ o, h₁.get? b = some o) : Inv c s₀ B₀ (gloop env d s₁.heap fp h₁) env (wr ++ B) (ds i) { s' with heap := h₁, toks := tk } := by
  have nb : ∀ b ∈ fp, b ∉ ownA (ds i).own ++ (env.locals :: env.cells.map (·.2)) := fun b hb hm => Gd.fB b hb (by
    rw [Gd.own i] at hm
    unfold bx
    rcases List.mem_append.mp hm with hm | hm
    · exact List.mem_append.mpr (.inl hm)
    · exact List.mem_append.mpr (.inr (List.mem_append.mpr (.inl hm))))
  have gw : ∀ b o, gmax env d s₁.heap b = some o → b ∉ wr := fun b o e hb => by
    unfold gmax at e
    split at e
    · cases e
    · rw [Gd.wn b hb] at e; cases e
  refine I.shift (wr := wr) (fun b hb => ⟨List.mem_append.mpr (.inl hb), ?_, nb b (Gd.wf b hb)⟩) hk (fun b hb => hb) I.b0 (fun b hb => ?_) (fun b o e => ?_) (fun b hm => ?_)
  · cases e : s₀.heap.get? b with
    | none => rfl
    | some o => have := Kp.get Gd.old e; rw [Gd.wn b hb] at this; cases this
  · unfold gloop
    by_cases hf : b ∈ fp
    · rw [if_pos hf]
      rcases List.mem_append.mp hb with hb | hb
      · exact hl b hb
      · obtain ⟨o, e⟩ := I.lv b (List.mem_append.mpr (.inr hb))
        unfold gloop at e
        rw [if_pos hf] at e
        refine ⟨o, hk b o (fun hm => ?_) e⟩
        obtain ⟨o', e'⟩ := Gd.bl b hb
        rw [Gd.wn b hm] at e'; cases e'
    · rw [if_neg hf]
      obtain ⟨o, e⟩ := I.lv b hb
      unfold gloop at e
      rw [if_neg hf] at e
      exact ⟨o, e⟩
  · unfold gloop at e
    split at e
    · exact e
    · rename_i hf
      refine hk b o (gw b o e) (I.gk b o ?_)
      unfold gloop
      rw [if_neg hf]; exact e
  · unfold gloop
    rw [if_neg fun hf => nb b hf hm]
    have := I.gnone b hm
    unfold gmax
    rw [if_pos (by rw [← Gd.own i]; exact hm)]

theorem Ground'.off {B : List Addr} {s₁ s' : Shared} {fp wr : List Addr} {ds : Nat → D} (Gd : Ground' c s₀ B₀ env B d s₁ fp wr ds) {i : Nat} (I : Inv c s₀ B₀ (gloop env d s₁.heap fp s'.heap) env (wr ++ B) (ds i) s') : ∀ b o, b ∉ fp → b ∉ ownA d.own ++ (env.locals :: env.cells.map (·.2)) → s₁.heap.get? b = some o → s'.heap.get? b = some o := fun b o hf hb e => I.gk b o (by
  unfold gloop gmax
  rw [if_neg hf, if_neg hb]
  exact e)
end
end Mine
namespace Mine
section
variable {c : Cx} {s₀ : Shared} {B₀ : List Addr} {A : Around} {env : Env} {d : D} {Q : Post} {rest : List Stmt} {pos p : Pos}

/- what stands between the turns -/
structure Turns (c : Cx) (s₀ : Shared) (B₀ : List Addr) (env : Env) (B : List Addr) (d : D) (s₁ : Shared) (fp wr : List Addr) (ds : Nat → D) (i : Nat) (s' : Shared) : Prop where
  inv : Inv c s₀ B₀ (gloop env d s₁.heap fp s'.heap) env (wr ++ B) (ds i) s'
  kf : ∀ b ∈ fp, b ∉ wr → ∀ o, s₁.heap.get? b = some o → s'.heap.get? b = some o
  fl : ∀ b ∈ fp, ∃ o, s'.heap.get? b = some o

theorem Turns.draw {B : List Addr} {s₁ s' : Shared} {fp wr : List Addr} {ds : Nat → D} (Gd : Ground' c s₀ B₀ env B d s₁ fp wr ds) {i : Nat} (T : Turns c s₀ B₀ env B d s₁ fp wr ds i s') {h₁ : Heap} {tk : Nat}
    (hk : ∀ b o, b ∉ wr → s'.heap.get? b = some o → h₁.get? b = some o) (hl : ∀ b ∈ wr, ∃ o, h₁.get? b = some o) : Turns c s₀ B₀ env B d s₁ fp wr ds i { s' with heap := h₁, toks := tk } where
  inv := Gd.step T.inv hk hl
  kf := fun b hb hw o e => hk b o hw (T.kf b hb hw o e)
  fl := fun b hb => by
    by_cases hw : b ∈ wr
    · exact hl b hw
    · obtain ⟨o, e⟩ := T.fl b hb
      exact ⟨o, hk b o hw e⟩
theorem Turns.item {B : List Addr} {s₁ s' : Shared} {fp wr : List Addr} {ds : Nat → D} (Gd : Ground' c s₀ B₀ env B d s₁ fp wr ds) {i : Nat} (T : Turns c s₀ B₀ env B d s₁ fp wr ds i s') {y : V} {v : Value} (r : Rep s₁.heap (bx env d B) y v) :
    Rep s'.heap (bx env (ds i) (wr ++ B)) y v := by
  have e : ∀ b, b ∈ bx env (ds i) (wr ++ B) ↔ b ∈ wr ++ bx env d B := fun b => by
    have : bx env (ds i) (wr ++ B) = bx env d (wr ++ B) := by unfold bx; rw [Gd.own i]
    rw [this]; exact bx_wide
  refine ((Rep.wide Gd.wn r).sub fun b hb => (e b).mp hb).off fun b o hb eo => ?_
  have hb' := fun h => hb ((e b).mpr h)
  have h1 : b ∉ wr := fun h => hb' (List.mem_append.mpr (.inl h))
  have h2 : b ∉ bx env d B := fun h => hb' (List.mem_append.mpr (.inr h))
  by_cases hf : b ∈ fp
  · exact T.kf b hf h1 o eo
  · refine Gd.off T.inv b o hf (fun hm => h2 ?_) eo
    unfold bx
    rcases List.mem_append.mp hm with hm | hm
    · exact List.mem_append.mpr (.inl hm)
    · exact List.mem_append.mpr (.inr (List.mem_append.mpr (.inl hm)))
theorem Turns.next {B : List Addr} {s₁ s' s₄ : Shared} {fp wr : List Addr} {ds : Nat → D} (Gd : Ground' c s₀ B₀ env B d s₁ fp wr ds) {i : Nat} (T : Turns c s₀ B₀ env B d s₁ fp wr ds i s')
    (I : Inv c s₀ B₀ (gloop env d s₁.heap fp s'.heap) env (wr ++ B) (ds (i + 1)) s₄) : Turns c s₀ B₀ env B d s₁ fp wr ds (i + 1) s₄ ∧ ∀ b ∈ fp, ∀ o, s'.heap.get? b = some o → s₄.heap.get? b = some o := by
  have hfk : ∀ b ∈ fp, ∀ o, s'.heap.get? b = some o → s₄.heap.get? b = some o := fun b hb o e => I.gk b o (by unfold gloop; rw [if_pos hb]; exact e)
  refine ⟨⟨?_, fun b hb hw o e => hfk b hb o (T.kf b hb hw o e), fun b hb => let ⟨o, e⟩ := T.fl b hb; ⟨o, hfk b hb o e⟩⟩, hfk⟩
  refine I.shift (wr := []) (fun b hb => nomatch hb) (fun b o _ e => e) (fun b hb => hb) I.b0 (fun b hb => ?_) (fun b o e => ?_) fun b hm => ?_
  · unfold gloop
    by_cases hf : b ∈ fp
    · rw [if_pos hf]
      obtain ⟨o, e⟩ := T.fl b hf
      exact ⟨o, hfk b hf o e⟩
    · rw [if_neg hf]
      obtain ⟨o, e⟩ := I.lv b hb
      unfold gloop at e
      rw [if_neg hf] at e
      exact ⟨o, e⟩
  · unfold gloop at e
    split at e
    · exact e
    · rename_i hf
      exact I.gk b o (by unfold gloop; rw [if_neg hf]; exact e)
  · have h1 := (I.gnone b hm).1
    unfold gloop at h1 ⊢
    by_cases hf : b ∈ fp
    · rw [if_pos hf] at h1
      obtain ⟨o, e⟩ := T.fl b hf
      rw [h1] at e; cases e
    · rw [if_neg hf] at h1 ⊢; exact h1
theorem Turns.fin {G : Addr → Option Obj} {B : List Addr} {s s₁ s' : Shared} {fp wr : List Addr} {ds : Nat → D} (Gd : Ground' c s₀ B₀ env B d s₁ fp wr ds) {i : Nat} (T : Turns c s₀ B₀ env B d s₁ fp wr ds i s') (I : Inv c s₀ B₀ G env B d s) (k : Keeps s s₁) {h₁ : Heap} {tk : Nat}
    (hk : ∀ b o, b ∉ wr → s'.heap.get? b = some o → h₁.get? b = some o) : Inv c s₀ B₀ G env B (ds i) { s' with heap := h₁, toks := tk } := by
  refine T.inv.shift (wr := wr) (fun b hb => ⟨List.mem_append.mpr (.inl hb), ?_, fun hm => ?_⟩) hk (fun b hb => List.mem_append.mpr (.inr hb)) I.b0 I.lv (fun b o e => ?_) fun b hm => ?_
  · cases e : s₀.heap.get? b with
    | none => rfl
    | some o => have := Kp.get Gd.old e; rw [Gd.wn b hb] at this; cases this
  · refine Gd.fB b (Gd.wf b hb) ?_
    rw [Gd.own i] at hm
    unfold bx
    rcases List.mem_append.mp hm with hm | hm
    · exact List.mem_append.mpr (.inl hm)
    · exact List.mem_append.mpr (.inr (List.mem_append.mpr (.inl hm)))
  · have e1 := Kp.get k (I.gk b o e)
    have hw : b ∉ wr := fun hm => by rw [Gd.wn b hm] at e1; cases e1
    refine hk b o hw ?_
    by_cases hf : b ∈ fp
    · exact T.kf b hf hw o e1
    · exact Gd.off T.inv b o hf (fun hm => by rw [(I.gnone b hm).1] at e; cases e) e1
  · rw [Gd.own i] at hm
    exact (I.gnone b hm).1

theorem Turns.start {G : Addr → Option Obj} {B : List Addr} {s s₁ s₂ : Shared} {fp wr : List Addr} {ds : Nat → D} (I : Inv c s₀ B₀ G env B d s) (k₁ : Keeps s s₁) (k₂ : Keeps s₁ s₂) (hwf : ∀ b ∈ wr, b ∈ fp) (hfp : ∀ b ∈ fp, ∃ o, s₂.heap.get? b = some o)
    (hfB : ∀ b ∈ fp, b ∉ bx env d B) (hwr : ∀ b ∈ wr, s₁.heap.get? b = none) (hw : ∀ p ∈ (ds 0).ρ, d.ρ.lookup p.1 = some p.2) (ho : (ds 0).own = d.own) (hown : ∀ i, ownA (ds i).own = ownA d.own) :
    Ground' c s₀ B₀ env B d s₁ fp wr ds ∧ Turns c s₀ B₀ env B d s₁ fp wr ds 0 s₂ := by
  have I₁ := I.keeps k₁
  have bn : ∀ b ∈ B, b ∉ ownA d.own ++ (env.locals :: env.cells.map (·.2)) := fun b hb hm => by
    obtain ⟨o, e⟩ := I.lv b hb
    rw [(I.gnone b hm).1] at e; cases e
  have nb : ∀ b ∈ fp, b ∉ ownA d.own ++ (env.locals :: env.cells.map (·.2)) := fun b hb hm => hfB b hb (by
    unfold bx
    rcases List.mem_append.mp hm with hm | hm
    · exact List.mem_append.mpr (.inl hm)
    · exact List.mem_append.mpr (.inr (List.mem_append.mpr (.inl hm))))
  have bl : ∀ b ∈ B, ∃ o, s₁.heap.get? b = some o := fun b hb => let ⟨o, e⟩ := I₁.lv b hb; ⟨o, I₁.gk b o e⟩
  refine ⟨⟨hwf, hfB, hwr, hown, I₁.same, bl, bn, I.b0⟩, ?_, fun b hb hw o e => Kp.get k₂ e, hfp⟩
  have W := I₁.widen (G' := gloop env d s₁.heap fp s₂.heap) (wr := wr) k₂ hwr (fun b hb => ?_) (fun b o e => ?_) fun b hm => ?_
  · exact W.weak (o := (ds 0).own) (ρ' := (ds 0).ρ) ho hw
  · unfold gloop
    by_cases hf : b ∈ fp
    · rw [if_pos hf]; exact hfp b hf
    · rw [if_neg hf]
      rcases List.mem_append.mp hb with hb | hb
      · exact absurd (hwf b hb) hf
      · obtain ⟨o, e⟩ := bl b hb
        unfold gmax
        rw [if_neg (bn b hb)]
        exact ⟨o, e⟩
  · unfold gloop gmax at e
    split at e
    · exact e
    · split at e
      · cases e
      · exact Kp.get k₂ e
  · unfold gloop gmax
    rw [if_neg fun hf => nb b hf hm, if_pos hm]

theorem run_for {x : Str} {pt : Pos} {iter : Expr} {body : List Stmt} {xs : List V} (ds : Nat → D) (hit : ∀ B, It c A env d B iter xs) 
    (turn : ∀ i v, xs[i]? = some v → Run c s₀ B₀ A env ⟨(x, v) :: (ds i).ρ, (ds i).own⟩ body (JoinQ c s₀ B₀ env (ds (i + 1)) fun _ _ _ _ => False))
    (done : Run c s₀ B₀ A env (ds xs.length) rest Q) (hw : SubR (ds 0).ρ d.ρ := by repeat (first | exact trivial | refine ⟨rfl, ?_⟩)) (ho : (ds 0).own = d.own := by rfl) (hown : ∀ i, ownA (ds i).own = ownA d.own := by intro _; rfl) (hx : ∀ i n a u, (ds i).own = some (n, a, u) → n ≠ x := by intro i n a u e; cases e <;> decide)
    (hk : KindOk env x := by first | exact .inl rfl | exact .inr ⟨rfl, _, rfl⟩) (hs : ∀ y, foldedSetIterable iter env y = pure y := by intro _; rfl) : Run c s₀ B₀ A env d (.For (.Name x pt) iter body [] pos :: rest) Q := by
  intro G B s E I
  refine wpAny_execs_cons (wpAny_For (hit _ s _ _ I.pre fun s₁ s₂ J fp wr St k₁ k₂ W hsz hst hfp hfB hwr hwl => ?_) hs)
  obtain ⟨Gd, T₀⟩ := Turns.start (ds := ds) I k₁ k₂ W.sub hfp hfB hwr hw.at ho hown
  refine codeAny_forLoop_any (fun k s' => ∃ i, i ≤ xs.length ∧ k = xs.length - i ∧ St i s'.heap ∧ Turns c s₀ B₀ env B d s₁ fp wr ds i s') ?_ xs.length ⟨0, Nat.zero_le _, rfl, hst, T₀⟩
  rintro k s' ⟨i, hi, rfl, hst', T⟩
  by_cases hlt : i < xs.length
  · refine W.item i s' _ _ hlt hst' fun v h₁ tk₁ hP hst₁ hk₁ => ?_
    obtain ⟨y, hy, hr⟩ := hP
    have T₁ := T.draw (tk := tk₁) Gd hk₁ (hwl _ _ hst₁)
    refine wpAny_pure (wpAny_assign_Name (T₁.inv.store hk (hx i) (T₁.item Gd hr) fun s₃ _ _ _ I₃ => ?_))
    refine wpAny_mono (turn i y hy _ _ s₃ _ I₃) (fun f s₄ h => ?_) fun _ _ e => e
    cases f with
    | next =>
      obtain ⟨T₄, hfk⟩ := T₁.next Gd h
      exact ⟨xs.length - (i + 1), by omega, i + 1, hlt, rfl, W.frame _ _ _ hst₁ hfk, T₄⟩
    | cont => exact h.elim
    | brk => exact h.elim
    | ret v => exact h.elim
  · have hin : i = xs.length := by omega
    subst hin
    refine W.done s' _ _ hst' fun h₁ tk₁ hk₁ => wpAny_execs_nil ?_
    exact done G B _ E (T.fin Gd I k₁ hk₁)
end
end Mine
namespace Mine

section
variable {c : Cx} {s₀ : Shared} {B₀ : List Addr} {A : Around} {env : Env} {d : D} {Q : Post} {rest : List Stmt} {pos p : Pos} {B : List Addr} {G : Addr → Option Obj} {s : Shared}

theorem extKp {h' : Heap} (k : Heap.ExtBut s.heap.objs.size s.heap h') : Keeps s { s with heap := h' } := ⟨h', s.toks, rfl, fun b o e => k b o (Nat.ne_of_lt (Heap.lt_size e)) e⟩

/- a pair is unpacked onto two names -/
theorem Inv.assign2 {E : Value → Shared → Prop} {Q : Unit → Shared → Prop} {x1 x2 : Str} {p1 p2 pt : Pos} {k : Nat} {T : Addr} {v0 v1 : Value} {y0 y1 : V} (hh : A.handled = none) (I : Inv c s₀ B₀ G env B d s) (ht : s.heap.IsTuple T #[v0, v1]) (k1 : KindOk env x1) (k2 : KindOk env x2)
    (hx1 : ∀ n a u, d.own = some (n, a, u) → n ≠ x1) (hx2 : ∀ n a u, d.own = some (n, a, u) → n ≠ x2) (r0 : Rep s.heap (bx env d B) y0 v0) (r1 : Rep s.heap (bx env d B) y1 v1)
    (h : ∀ s', Inv c s₀ B₀ G env B ⟨(x2, y1) :: (x1, y0) :: d.ρ, d.own⟩ s' → Q () s') : wpAny (model c.prog c.w) A (assign (.Tuple [.Name x1 p1, .Name x2 p2] k pt) env (.ref T)) Q E s := by
  refine wpAny_assign_Tuple hh ht rfl rfl fun h₃ hx₃ => ?_
  have kk := extKp hx₃
  show wpAny _ A (do holding [v1] (assign (.Name x1 p1) env v0); do holding [] (assign (.Name x2 p2) env v1); pure ()) _ _ _
  refine wpAny_bind (wpAny_holding (wpAny_assign_Name ((I.keeps kk).store k1 hx1 (r0.off (Kp.off kk _)) fun s₁ _ off _ I₁ => ?_)))
  refine wpAny_bind (wpAny_holding (wpAny_assign_Name (I₁.store k2 hx2 ((r1.off (Kp.off kk _)).off off) fun s₂ _ _ _ I₂ => wpAny_pure (h s₂ I₂))))
theorem Inv.assign3 {E : Value → Shared → Prop} {Q : Unit → Shared → Prop} {x1 x2 x3 : Str} {p1 p2 p3 pt : Pos} {k : Nat} {T : Addr} {v0 v1 v2 : Value} {y0 y1 y2 : V} (hh : A.handled = none) (I : Inv c s₀ B₀ G env B d s) (ht : s.heap.IsTuple T #[v0, v1, v2]) (k1 : KindOk env x1) (k2 : KindOk env x2) (k3 : KindOk env x3)
    (ho : d.own = none) (r0 : Rep s.heap (bx env d B) y0 v0) (r1 : Rep s.heap (bx env d B) y1 v1) (r2 : Rep s.heap (bx env d B) y2 v2)
    (h : ∀ s', Inv c s₀ B₀ G env B ⟨(x3, y2) :: (x2, y1) :: (x1, y0) :: d.ρ, d.own⟩ s' → Q () s') : wpAny (model c.prog c.w) A (assign (.Tuple [.Name x1 p1, .Name x2 p2, .Name x3 p3] k pt) env (.ref T)) Q E s := by
  refine wpAny_assign_Tuple hh ht rfl rfl fun h₃ hx₃ => ?_
  have kk := extKp hx₃
  have no : ∀ x : Str, ∀ n a u, d.own = some (n, a, u) → n ≠ x := fun _ _ _ _ e => by rw [ho] at e; cases e
  show wpAny _ A (do holding [v1, v2] (assign (.Name x1 p1) env v0); do holding [v2] (assign (.Name x2 p2) env v1); do holding [] (assign (.Name x3 p3) env v2); pure ()) _ _ _
  refine wpAny_bind (wpAny_holding (wpAny_assign_Name ((I.keeps kk).store k1 (no _) (r0.off (Kp.off kk _)) fun s₁ _ off _ I₁ => ?_)))
  refine wpAny_bind (wpAny_holding (wpAny_assign_Name (I₁.store k2 (no _) ((r1.off (Kp.off kk _)).off off) fun s₂ _ off2 _ I₂ => ?_)))
  exact wpAny_bind (wpAny_holding (wpAny_assign_Name (I₂.store k3 (no _) (((r2.off (Kp.off kk _)).off off).off off2) fun s₃ _ _ _ I₃ => wpAny_pure (h s₃ I₃))))

/- x1, x2 = e, e a pair of ints -/
theorem run_unpack2 {x1 x2 : Str} {p1 p2 pt : Pos} {k : Nat} {e : Expr} {a b : Int} (hh : A.handled = none) (h : ∀ B, Ev c A env d B e (.ti [a, b])) (hr : Run c s₀ B₀ A env ⟨(x2, .int b) :: (x1, .int a) :: d.ρ, d.own⟩ rest Q) (k1 : KindOk env x1 := by first | exact .inl rfl | exact .inr ⟨rfl, _, rfl⟩) (k2 : KindOk env x2 := by first | exact .inl rfl | exact .inr ⟨rfl, _, rfl⟩) (hx1 : ∀ n a u, d.own = some (n, a, u) → n ≠ x1 := by intro n a u e; cases e <;> decide) (hx2 : ∀ n a u, d.own = some (n, a, u) → n ≠ x2 := by intro n a u e; cases e <;> decide)
    (hs : swapsWithSole [.Tuple [.Name x1 p1, .Name x2 p2] k pt] e pos.line env = pure false := by rfl) (hw : swappedStores [.Tuple [.Name x1 p1, .Name x2 p2] k pt] e env = pure none := by rfl) : Run c s₀ B₀ A env d (.Assign [.Tuple [.Name x1 p1, .Name x2 p2] k pt] e pos :: rest) Q := by
  intro G B s E I
  refine wpAny_execs_cons (Assign_Tuple (h _ s _ _ I.pre fun val s₁ k₁ r₁ => ?_) hs hw)
  obtain ⟨T, rfl, _, _, vs, ht, hi⟩ := r₁
  obtain ⟨t, vs', hv, hr'⟩ := hi.cons_inv
  obtain ⟨u, vs'', hv', hr''⟩ := hr'.cons_inv
  have := hr''.nil_inv
  subst this hv'
  have e1 : vs = #[.int a t, .int b u] := by rw [← Array.toList_inj]; exact hv
  subst e1
  exact (I.keeps k₁).assign2 (y0 := .int a) (y1 := .int b) hh ht k1 k2 hx1 hx2 ⟨t, rfl⟩ ⟨u, rfl⟩ fun s₂ I₂ => hr G B s₂ E I₂
/- x1, x2, x3 = e, e a triple of two lists and an int -/
theorem run_unpack3 {x1 x2 x3 : Str} {p1 p2 p3 pt : Pos} {k : Nat} {e : Expr} {x y : List Int} {n : Int} (hh : A.handled = none) (h : ∀ B, Ev c A env d B e (.tri x y n)) (hr : Run c s₀ B₀ A env ⟨(x3, .int n) :: (x2, .li y) :: (x1, .li x) :: d.ρ, d.own⟩ rest Q) (k1 : KindOk env x1 := by first | exact .inl rfl | exact .inr ⟨rfl, _, rfl⟩) (k2 : KindOk env x2 := by first | exact .inl rfl | exact .inr ⟨rfl, _, rfl⟩) (k3 : KindOk env x3 := by first | exact .inl rfl | exact .inr ⟨rfl, _, rfl⟩) (ho : d.own = none := by rfl)
    (hs : swapsWithSole [.Tuple [.Name x1 p1, .Name x2 p2, .Name x3 p3] k pt] e pos.line env = pure false := by rfl) (hw : swappedStores [.Tuple [.Name x1 p1, .Name x2 p2, .Name x3 p3] k pt] e env = pure none := by rfl) : Run c s₀ B₀ A env d (.Assign [.Tuple [.Name x1 p1, .Name x2 p2, .Name x3 p3] k pt] e pos :: rest) Q := by
  intro G B s E I
  refine wpAny_execs_cons (Assign_Tuple (h _ s _ _ I.pre fun val s₁ k₁ r₁ => ?_) hs hw)
  obtain ⟨T, rfl, _, a, b, t, ht, hx, hy⟩ := r₁
  exact (I.keeps k₁).assign3 (y0 := .li x) (y1 := .li y) (y2 := .int n) hh ht k1 k2 k3 ho ⟨a, rfl, hx⟩ ⟨b, rfl, hy⟩ ⟨t, rfl⟩ fun s₂ I₂ => hr G B s₂ E I₂

/- x1, x2 = e1, e2 -/
theorem repl_length {h : Heap} : ∀ {vs : List V} {vals : List Value}, RepL h B vs vals → vals.length = vs.length
  | [], [], _ => rfl
  | [], _ :: _, r => r.elim
  | _ :: _, [], r => r.elim
  | _ :: _, _ :: _, r => congrArg (· + 1) (repl_length r.2)
theorem tup_new {E : Value → Shared → Prop} {vals : List Value} {Q : Value → Shared → Prop} (hl : vals.length ≤ 8)
    (hQ : ∀ T s', Keeps s s' → s'.heap.IsTuple T vals.toArray → Q (.ref T) s') : wpAny (model c.prog c.w) A (newTuple vals) Q E s := by
  refine wpAny_newObj_type (hQ _ _ (push_kp _) ⟨_, Heap.get?_push_size _ rfl, rfl, 0, rfl⟩) ?_
  show vals.toArray.size ≤ sizeLine
  rw [sizeLine_eq, List.size_toArray]
  omega

theorem run_swap2 {x1 x2 : Str} {p1 p2 pt pv : Pos} {k k' : Nat} {e1 e2 : Expr} {y1 y2 : V} (hh : A.handled = none) (h : ∀ B, EvL c A env d B [e1, e2] [y1, y2]) (hr : Run c s₀ B₀ A env ⟨(x1, y1) :: (x2, y2) :: d.ρ, d.own⟩ rest Q) (k1 : KindOk env x1 := by first | exact .inl rfl | exact .inr ⟨rfl, _, rfl⟩) (k2 : KindOk env x2 := by first | exact .inl rfl | exact .inr ⟨rfl, _, rfl⟩) (hx1 : ∀ n a u, d.own = some (n, a, u) → n ≠ x1 := by intro n a u e; cases e <;> decide) (hx2 : ∀ n a u, d.own = some (n, a, u) → n ≠ x2 := by intro n a u e; cases e <;> decide)
    (hs : swapsWithSole [.Tuple [.Name x1 p1, .Name x2 p2] k pt] (.Tuple [e1, e2] k' pv) pos.line env = pure false := by rfl) (hw : swappedStores [.Tuple [.Name x1 p1, .Name x2 p2] k pt] (.Tuple [e1, e2] k' pv) env = pure (some [x1, x2]) := by rfl) : Run c s₀ B₀ A env d (.Assign [.Tuple [.Name x1 p1, .Name x2 p2] k pt] (.Tuple [e1, e2] k' pv) pos :: rest) Q := by
  intro G B s E I
  refine wpAny_execs_cons (Assign_Tuple_swapped (Tuple_ (h _ s _ _ pv I.pre fun vals s₁ k₁ r₁ => ?_)) hs hw)
  obtain ⟨v1, v2, rfl, r1, r2⟩ := repl2 r₁
  refine tup_new (by simp) fun T s₂ k₂ ht => wpAny_unpackItems_tuple (items := #[v1, v2]) hh ht fun h₃ hx₃ => ?_
  have k₃ := extKp hx₃
  have K := Kp.tr k₂ k₃
  show wpAny _ A (do holding [v1] (bindName env x2 v2); do holding [] (bindName env x1 v1); pure ()) _ _ _
  refine wpAny_bind (wpAny_holding (wpAny_bindName (((I.keeps k₁).keeps K).store k2 hx2 (r2.off (Kp.off K _)) fun s₄ _ off _ I₄ => ?_)))
  exact wpAny_bind (wpAny_holding (wpAny_bindName (I₄.store k1 hx1 ((r1.off (Kp.off K _)).off off) fun s₅ _ _ _ I₅ => wpAny_pure (hr G B s₅ E I₅))))

/- a list that the frame alone holds -/
def EvF (c : Cx) (A : Around) (env : Env) (d : D) (B : List Addr) (e : Expr) (v : V) : Prop :=
  ∀ (s : Shared) (E Q : Value → Shared → Prop), Pre c env d B s → (∀ a s', Keeps s s' → s.heap.get? a = none → Cont s'.heap (a :: B) v a → Q (.ref a) s') → wpAny (model c.prog c.w) A (eval e env) Q E s

theorem rows_wide {h : Heap} {a : Addr} (hn : h.get? a = none) : ∀ {vs : List Value} {ls : List (List Int)}, RowsAre h B vs ls → RowsAre h (a :: B) vs ls
  | _, _, .nil => .nil
  | _, _, .cons x r => .cons ⟨fun hm => by
      rcases List.mem_cons.mp hm with e | hm
      · obtain ⟨_, _, vs, ⟨o, ho, _⟩, _⟩ := x
        rw [e, hn] at ho; cases ho
      · exact x.1 hm, x.2⟩ (rows_wide hn r)
theorem evf_listll {es : List Expr} {ls : List (List Int)} (h : EvL c A env d B es (ls.map V.li)) (hl : LenOk ls.length) : EvF c A env d B (.List es p) (.ll ls) := by
  intro s E Q P hQ
  refine List_ (h s _ _ p P fun vals s₁ k₁ r₁ => ?_)
  have hi := repl_rows r₁
  have kk := push_kp (s := s₁) { cls := .type "list", data := .seq vals.toArray }
  have hnew : s₁.heap.get? s₁.heap.objs.size = none := get_size
  have hold : s.heap.get? s₁.heap.objs.size = none := by
    cases e : s.heap.get? s₁.heap.objs.size with
    | none => rfl
    | some o => have := Kp.get k₁ e; rw [hnew] at this; cases this
  have hr : RowsAre s₁.heap (s₁.heap.objs.size :: B) vals ls := rows_wide hnew hi
  refine wpAny_newObj_type (hQ _ _ (Kp.tr k₁ kk) hold ⟨hl, vals.toArray, plain_new _ _, by simpa using hr.off (Kp.off kk _)⟩) ?_
  show vals.toArray.size ≤ sizeLine
  have := hl.line
  have := hi.length
  simp only [List.size_toArray]
  omega
theorem evf_rep0 {e1 e2 : Expr} {x k : Int} (h1 : Ev c A env d B e1 (.li [x])) (h2 : Ev c A env d B e2 (.int k)) (hk : LenOk k.toNat) (hlo : -(2 ^ 63 : Int) ≤ k) : EvF c A env d B (.BinOp e1 .Mult e2 p) (.li (List.replicate k.toNat x)) := by
  intro s E Q P hQ
  refine wpAny_BinOp (h1 s _ _ P fun va s₁ k₁ r₁ => h2 s₁ _ _ (P.keeps k₁) fun vb s₂ k₂ r₂ => ?_)
  have P₂ := (P.keeps k₁).keeps k₂
  obtain ⟨u, rfl⟩ := r₂
  have key := mul_rep (c := c) (A := A) (E := E) (u := u) (Q := Q) (B := B) (r₁.off (Kp.off k₂ B)) hk hlo P₂.fresh
  refine key fun s₃ k₃ hp hb => ?_
  obtain ⟨vs, hv, hi⟩ := hp
  refine hQ _ s₃ (Kp.tr k₁ (Kp.tr k₂ k₃)) ?_ ⟨by rw [List.length_replicate]; exact hk, vs, hv, hi⟩
  cases e : s.heap.get? s₂.heap.objs.size with
  | none => rfl
  | some o => have := Kp.get (Kp.tr k₁ k₂) e; rw [get_size] at this; cases this

/- the place of a fresh list is set apart -/
def gadd (G : Addr → Option Obj) (a : Addr) (h : Heap) : Addr → Option Obj := fun b => if b = a then h.get? a else G b
theorem Inv.reserve {s' : Shared} {a : Addr} (I : Inv c s₀ B₀ G env B d s) (k : Keeps s s') (ha : s.heap.get? a = none) (hl : ∃ o, s'.heap.get? a = some o) : Inv c s₀ B₀ (gadd G a s'.heap) env ([a] ++ B) d s' := by
  have na : a ∉ ownA d.own ++ (env.locals :: env.cells.map (·.2)) := fun hm => I.pre.fresh ha (by
    unfold bx
    rcases List.mem_append.mp hm with hm | hm
    · exact List.mem_append.mpr (.inl hm)
    · exact List.mem_append.mpr (.inr (List.mem_append.mpr (.inl hm))))
  refine I.widen k (fun b hb => by rw [List.mem_singleton.mp hb]; exact ha) (fun b hb => ?_) (fun b o e => ?_) fun b hm => ?_
  · unfold gadd
    by_cases e : b = a
    · rw [if_pos e]; exact hl
    · rw [if_neg e]
      rcases List.mem_append.mp hb with hb | hb
      · exact absurd (List.mem_singleton.mp hb) e
      · exact I.lv b hb
  · unfold gadd at e
    split at e
    · rename_i e'; rw [e']; exact e
    · exact Kp.get k (I.gk b o e)
  · unfold gadd
    rw [if_neg fun (e : b = a) => na (e ▸ hm)]
    exact (I.gnone b hm).1
theorem bx_own {ρ : Rho} {x : Str} {a b : Addr} {v : V} (ho : d.own = none) : b ∈ bx env ⟨ρ, some (x, a, v)⟩ B ↔ b ∈ bx env d ([a] ++ B) := by
  unfold bx
  rw [ho]
  simp only [ownA, List.mem_append, List.nil_append, List.mem_cons, List.not_mem_nil, or_false]
  constructor
  · rintro (h | h | h)
    · exact .inr (.inl h)
    · exact .inl h
    · exact .inr (.inr h)
  · rintro (h | h | h)
    · exact .inr (.inl h)
    · exact .inl h
    · exact .inr (.inr h)
theorem Inv.storeOwn {G' : Addr → Option Obj} {M : Model} {E : Value → Shared → Prop} {Q : Unit → Shared → Prop} {x : Str} {v : V} {a : Addr} (I : Inv c s₀ B₀ G' env ([a] ++ B) d s) (hk : KindOk env x) (ho : d.own = none) (hx : d.ρ.lookup x = none) (b0 : ∀ b ∈ B₀, b ∈ B)
    (hg : ∀ b o, G b = some o → G' b = some o) (lv : ∀ b ∈ B, ∃ o, G b = some o) (ga : G a = none) (hc : Cont s.heap (bx env d ([a] ++ B)) v a) (h₀ : s₀.heap.get? a = none)
    (h : ∀ s', Off (bx env d ([a] ++ B)) s.heap s'.heap → Inv c s₀ B₀ G env B ⟨d.ρ, some (x, a, v)⟩ s' → Q () s') : wpAny M A (storeName env x (.ref a)) Q E s := by
  -- the name gets a value of no kind first: a frame without it
  have aB : a ∉ B := fun hb => by obtain ⟨o, e⟩ := lv a hb; rw [ga] at e; cases e
  have na : a ∉ env.locals :: env.cells.map (·.2) := fun hm => by
    obtain ⟨o, e⟩ := I.lv a (List.mem_append.mpr (.inl (List.mem_cons_self ..)))
    rw [(I.gnone a (List.mem_append.mpr (.inr hm))).1] at e; cases e
  have sub1 : ∀ b ∈ bx env ⟨d.ρ, some (x, a, v)⟩ B, b ∈ bx env d ([a] ++ B) := fun b hb => (bx_own ho).mp hb
  obtain ⟨m, cm, X, h1, h2⟩ := I.fr
  have hL : env.locals ∈ bx env d ([a] ++ B) := List.mem_append.mpr (.inr (List.mem_append.mpr (.inl (List.mem_cons_self ..))))
  have hC : ∀ n k, (n, k) ∈ env.cells → k ∈ bx env d ([a] ++ B) := fun n k e => List.mem_append.mpr (.inr (List.mem_append.mpr (.inl (List.mem_cons_of_mem _ (List.mem_map.mpr ⟨(n, k), e, rfl⟩)))))
  have nx : ∀ n u, d.ρ.lookup n = some u → n ≠ x := fun n u e hn => by rw [hn, hx] at e; cases e
  rcases hk with hk | ⟨hk, k, hck⟩
  · refine wpAny_storeName_local hk X.toInCall.ns (fun h' hn' hs' => ?_) (by rw [I.ek]; rfl)
    have off : Off (bx env d ([a] ++ B)) s.heap h' := fun b o hb e => hs'.extBut b o (fun e' => hb (e' ▸ hL)) e
    have gk : ∀ b o, G b = some o → h'.get? b = some o := fun b o e => hs'.extBut b o (fun e' => by have := hg b o e; rw [e', I.gl] at this; cases this) (I.gk b o (hg b o e))
    refine h _ off { ek := I.ek, eg := I.eg, eb := I.eb, base₀ := I.base₀, b0 := b0, lv := lv, lk := I.lk, gk := gk, gl := ?_, gc := fun n k hp => ?_, fr := ⟨(fun y => if y = x then some (.ref a) else m y), cm, ⟨⟨?_, hn', fun b o e => ?_, X.toInCall.fresh⟩, fun n k hk => ?_, X.apart, X.above⟩, ?_, ?_⟩ }
    · cases e : G env.locals with
      | none => rfl
      | some o => have := hg _ _ e; rw [I.gl] at this; cases this
    · cases e : G k with
      | none => rfl
      | some o => have := hg _ _ e; rw [I.gc n k hp] at this; cases this
    · obtain ⟨h₁, tk, e⟩ := X.toInCall.same
      rw [e]
      exact ⟨h', _, rfl⟩
    · exact hs'.extBut b o (Nat.ne_of_lt (Nat.lt_of_lt_of_le (Heap.lt_size e) X.toInCall.fresh)) (X.toInCall.keep b o e)
    · exact (X.cell n k hk).sameBut hs' (Nat.ne_of_gt (X.above n k (mem_of_lookup hk)))
    · intro n u e
      obtain ⟨w, q, r⟩ := h1 n u e
      refine ⟨w, ?_, (r.off off).sub sub1⟩
      rcases q with ⟨a1, a2⟩ | q
      · exact .inl ⟨a1, (if_neg (nx n u e)).trans a2⟩
      · exact .inr q
    · intro n b u e
      cases e
      refine ⟨.inl ⟨hk, if_pos rfl⟩, (contOff hc (fun o e => hs'.extBut a o (fun e' => na (e' ▸ List.mem_cons_self ..)) e) off).sub sub1, fun hm => ?_, ga, h₀⟩
      rcases List.mem_append.mp hm with hm | hm
      · exact na hm
      · exact aB hm
  · refine wpAny_storeName_cell I.ek hk hck (X.cell x k hck) fun h' hc' hs' => ?_
    have hkL := X.above x k (mem_of_lookup hck)
    have hkb : k ∈ bx env d ([a] ++ B) := hC x k (mem_of_lookup hck)
    have off : Off (bx env d ([a] ++ B)) s.heap h' := fun b o hb e => hs'.extBut b o (fun e' => hb (e' ▸ hkb)) e
    have gk : ∀ b o, G b = some o → h'.get? b = some o := fun b o e => hs'.extBut b o (fun e' => by have := hg b o e; rw [e', I.gc x k (mem_of_lookup hck)] at this; cases this) (I.gk b o (hg b o e))
    have hka : a ≠ k := fun e => na (e ▸ List.mem_cons_of_mem _ (List.mem_map.mpr ⟨(x, k), mem_of_lookup hck, rfl⟩))
    refine h { s with heap := h', toks := s.toks } off { ek := I.ek, eg := I.eg, eb := I.eb, base₀ := I.base₀, b0 := b0, lv := lv, lk := I.lk, gk := gk, gl := ?_, gc := fun n k hp => ?_, fr := ⟨m, (fun y => if y = x then some (.ref a) else cm y), ⟨⟨?_, X.toInCall.ns.sameBut hs' (Nat.ne_of_lt hkL), fun b o e => ?_, X.toInCall.fresh⟩, fun n k' hk' => ?_, X.apart, X.above⟩, ?_, ?_⟩ }
    · cases e : G env.locals with
      | none => rfl
      | some o => have := hg _ _ e; rw [I.gl] at this; cases this
    · cases e : G k with
      | none => rfl
      | some o => have := hg _ _ e; rw [I.gc n k hp] at this; cases this
    · obtain ⟨h₁, tk, e⟩ := X.toInCall.same
      rw [e]
      exact ⟨h', _, rfl⟩
    · exact hs'.extBut b o (Nat.ne_of_lt (Nat.lt_trans (Nat.lt_of_lt_of_le (Heap.lt_size e) X.toInCall.fresh) hkL)) (X.toInCall.keep b o e)
    · by_cases hn : n = x
      · subst hn
        rw [hck] at hk'; cases hk'
        simpa using hc'
      · rw [if_neg hn]
        exact (X.cell n k' hk').sameBut hs' fun e => hn (name_of_addr X.apart (mem_of_lookup hk') (e ▸ mem_of_lookup hck))
    · intro n u e
      obtain ⟨w, q, r⟩ := h1 n u e
      refine ⟨w, ?_, (r.off off).sub sub1⟩
      rcases q with q | ⟨a1, a2, a3⟩
      · exact .inl q
      · exact .inr ⟨a1, a2, (if_neg (nx n u e)).trans a3⟩
    · intro n b u e
      cases e
      refine ⟨.inr ⟨hk, ⟨k, hck⟩, if_pos rfl⟩, (contOff hc (fun o e => hs'.extBut a o hka e) off).sub sub1, fun hm => ?_, ga, h₀⟩
      rcases List.mem_append.mp hm with hm | hm
      · exact na hm
      · exact aB hm
end
end Mine
namespace Mine
section
variable {c : Cx} {s₀ : Shared} {B₀ : List Addr} {A : Around} {env : Env} {d : D} {Q : Post} {rest : List Stmt} {pos p : Pos} {B : List Addr} {G : Addr → Option Obj} {s : Shared}

theorem fresh_s0 {s' : Shared} {a : Addr} (I : Inv c s₀ B₀ G env B d s) (ha : s.heap.get? a = none) : s₀.heap.get? a = none ∧ G a = none := by
  constructor
  · cases e : s₀.heap.get? a with
    | none => rfl
    | some o => have := Kp.get I.same e; rw [ha] at this; cases this
  · cases e : G a with
    | none => rfl
    | some o => have := I.gk a o e; rw [ha] at this; cases this
theorem gadd_sub {s' : Shared} {a : Addr} (I : Inv c s₀ B₀ G env B d s) (ha : s.heap.get? a = none) {h : Heap} : ∀ b o, G b = some o → gadd G a h b = some o := fun b o e => by
  unfold gadd
  rw [if_neg]
  · exact e
  · intro e'
    have := (fresh_s0 (s' := s) I ha).2
    rw [e', this] at e; cases e
theorem bx_add {a : Addr} {b : Addr} (hb : b ∈ bx env d ([a] ++ B)) : b ∈ a :: bx env d B := bx_wide.mp hb

theorem run_assign_own {x : Str} {e : Expr} {v : V} (h : ∀ B, EvF c A env d B e v) (hr : ∀ a, Run c s₀ B₀ A env ⟨d.ρ, some (x, a, v)⟩ rest Q)
    (hk : KindOk env x := by first | exact .inl rfl | exact .inr ⟨rfl, _, rfl⟩) (ho : d.own = none := by rfl) (hx : d.ρ.lookup x = none := by rfl) (hs : swapsWith e (some (.Name x p)) pos.line env = pure false := by rfl) : Run c s₀ B₀ A env d (.Assign [.Name x p] e pos :: rest) Q := by
  intro G B s E I
  refine wpAny_execs_cons (wpAny_Assign_Name (h _ s _ _ I.pre fun a s₁ k₁ ha hc => ?_) hs)
  have I₁ := I.reserve k₁ ha hc.live
  exact I₁.storeOwn hk ho hx I.b0 (gadd_sub (s' := s) I ha) I.lv (fresh_s0 (s' := s) I ha).2 (hc.sub fun b hb => bx_add hb) (fresh_s0 (s' := s) I ha).1 fun s₂ _ I₂ => hr a G B s₂ E I₂

/- x1, x2 = e1, e2: e2 is a fresh list -/
theorem run_swap2_own2 {x1 x2 : Str} {p1 p2 pt pv : Pos} {k k' : Nat} {e1 e2 : Expr} {y1 y2 : V} (hh : A.handled = none) (h1 : ∀ B, Ev c A env d B e1 y1) (h2 : ∀ B, EvF c A env d B e2 y2) (hr : ∀ a, Run c s₀ B₀ A env ⟨(x1, y1) :: d.ρ, some (x2, a, y2)⟩ rest Q) (k1 : KindOk env x1 := by first | exact .inl rfl | exact .inr ⟨rfl, _, rfl⟩) (k2 : KindOk env x2 := by first | exact .inl rfl | exact .inr ⟨rfl, _, rfl⟩) (ho : d.own = none := by rfl) (hx2 : d.ρ.lookup x2 = none := by rfl) (hne : x2 ≠ x1 := by decide)
    (hes : starEach [e1, e2] env = (false, eval e1 env) :: starEach [e2] env := by rfl) (hes2 : starEach [e2] env = (false, eval e2 env) :: starEach [] env := by rfl)
    (hs : swapsWithSole [.Tuple [.Name x1 p1, .Name x2 p2] k pt] (.Tuple [e1, e2] k' pv) pos.line env = pure false := by rfl) (hw : swappedStores [.Tuple [.Name x1 p1, .Name x2 p2] k pt] (.Tuple [e1, e2] k' pv) env = pure (some [x1, x2]) := by rfl) : Run c s₀ B₀ A env d (.Assign [.Tuple [.Name x1 p1, .Name x2 p2] k pt] (.Tuple [e1, e2] k' pv) pos :: rest) Q := by
  intro G B s E I
  refine wpAny_execs_cons (Assign_Tuple_swapped (Tuple_ ?_) hs hw)
  rw [hes, hes2]
  refine spliced_cons (h1 _ s _ _ I.pre fun v1 s₁ k₁ r1 => spliced_cons (h2 _ s₁ _ _ (I.keeps k₁).pre fun a s₂ k₂ ha hc => spliced_nil ?_))
  refine tup_new (by simp) fun T s₃ k₃ ht => wpAny_unpackItems_tuple (items := #[v1, .ref a]) hh ht fun h₄ hx₄ => ?_
  have k₄ := extKp hx₄
  have K := Kp.tr k₃ k₄
  show wpAny _ A (do holding [v1] (bindName env x2 (.ref a)); do holding [] (bindName env x1 v1); pure ()) _ _ _
  have I₁ := I.keeps k₁
  have I₂ := (I₁.reserve k₂ ha hc.live).keeps K
  have hc' := hc.keeps fun _ _ e => Kp.get K e
  refine wpAny_bind (wpAny_holding (wpAny_bindName (I₂.storeOwn k2 ho hx2 I.b0 (gadd_sub (s' := s) I₁ ha) I.lv (fresh_s0 (s' := s) I₁ ha).2 (hc'.sub fun b hb => bx_add hb) (fresh_s0 (s' := s) I₁ ha).1 fun s₅ off I₅ => ?_)))
  have r1' : Rep s₅.heap (bx env ⟨d.ρ, some (x2, a, y2)⟩ B) y1 v1 :=
    ((((Rep.wide (wr := [a]) (fun b hb => by rw [List.mem_singleton.mp hb]; exact ha) r1).off (Kp.off (Kp.tr k₂ K) _)).sub fun b hb => bx_wide.mp hb).off off).sub fun b hb => (bx_own ho).mp hb
  exact wpAny_bind (wpAny_holding (wpAny_bindName (I₅.store k1 (fun n b u e => by cases e; exact hne) r1' fun s₆ _ _ _ I₆ => wpAny_pure (hr a G B s₆ E I₆))))

/- x1, x2 = e1, e2: e1 is a fresh list -/
theorem run_swap2_own1 {x1 x2 : Str} {p1 p2 pt pv : Pos} {k k' : Nat} {e1 e2 : Expr} {y1 y2 : V} (hh : A.handled = none) (h1 : ∀ B, EvF c A env d B e1 y1) (h2 : ∀ B, Ev c A env d B e2 y2) (hr : ∀ a, Run c s₀ B₀ A env ⟨(x2, y2) :: d.ρ, some (x1, a, y1)⟩ rest Q) (k1 : KindOk env x1 := by first | exact .inl rfl | exact .inr ⟨rfl, _, rfl⟩) (k2 : KindOk env x2 := by first | exact .inl rfl | exact .inr ⟨rfl, _, rfl⟩) (ho : d.own = none := by rfl) (hx1 : d.ρ.lookup x1 = none := by rfl) (hne : x1 ≠ x2 := by decide)
    (hes : starEach [e1, e2] env = (false, eval e1 env) :: starEach [e2] env := by rfl) (hes2 : starEach [e2] env = (false, eval e2 env) :: starEach [] env := by rfl)
    (hs : swapsWithSole [.Tuple [.Name x1 p1, .Name x2 p2] k pt] (.Tuple [e1, e2] k' pv) pos.line env = pure false := by rfl) (hw : swappedStores [.Tuple [.Name x1 p1, .Name x2 p2] k pt] (.Tuple [e1, e2] k' pv) env = pure (some [x1, x2]) := by rfl) : Run c s₀ B₀ A env d (.Assign [.Tuple [.Name x1 p1, .Name x2 p2] k pt] (.Tuple [e1, e2] k' pv) pos :: rest) Q := by
  intro G B s E I
  refine wpAny_execs_cons (Assign_Tuple_swapped (Tuple_ ?_) hs hw)
  rw [hes, hes2]
  refine spliced_cons (h1 _ s _ _ I.pre fun a s₁ k₁ ha hc => ?_)
  have I₁ := I.reserve k₁ ha hc.live
  refine spliced_cons (h2 _ s₁ _ _ I₁.pre fun v2 s₂ k₂ r2 => spliced_nil ?_)
  refine tup_new (by simp) fun T s₃ k₃ ht => wpAny_unpackItems_tuple (items := #[.ref a, v2]) hh ht fun h₄ hx₄ => ?_
  have k₄ := extKp hx₄
  have K := Kp.tr k₃ k₄
  show wpAny _ A (do holding [.ref a] (bindName env x2 v2); do holding [] (bindName env x1 (.ref a)); pure ()) _ _ _
  have I₂ := (I₁.keeps k₂).keeps K
  have hc' := (hc.keeps fun _ _ e => Kp.get k₂ e).keeps fun _ _ e => Kp.get K e
  have no : ∀ x : Str, ∀ n a u, d.own = some (n, a, u) → n ≠ x := fun _ _ _ _ e => by rw [ho] at e; cases e
  refine wpAny_bind (wpAny_holding (wpAny_bindName (I₂.store k2 (no _) (r2.off (Kp.off K _)) fun s₅ _ off gk₅ I₅ => ?_)))
  have hc5 : Cont s₅.heap (bx env d ([a] ++ B)) y1 a := contOff (hc'.sub fun b hb => bx_add hb) (fun o e => by
    have hg : gadd G a s₁.heap a = s₁.heap.get? a := by unfold gadd; rw [if_pos rfl]
    obtain ⟨o', e'⟩ := hc.live
    have e2 := gk₅ a o' (hg.trans e')
    have e3 := Kp.get K (Kp.get k₂ e')
    have : o = o' := Option.some.inj (e.symm.trans e3)
    rw [this]; exact e2) off
  exact wpAny_bind (wpAny_holding (wpAny_bindName (I₅.storeOwn (x := x1) k1 ho (by rw [List.lookup_cons, beq_eq_false_iff_ne.mpr hne]; exact hx1) I.b0 (gadd_sub (s' := s) I ha) I.lv (fresh_s0 (s' := s) I ha).2 hc5 (fresh_s0 (s' := s) I ha).1 fun s₆ _ I₆ => wpAny_pure (hr a G B s₆ E I₆))))

/- x1, x2, x3 = e1, e2, e3: e1 is a fresh list -/
theorem run_swap3_own1 {x1 x2 x3 : Str} {p1 p2 p3 pt pv : Pos} {k k' : Nat} {e1 e2 e3 : Expr} {y1 y2 y3 : V} (hh : A.handled = none) (h1 : ∀ B, EvF c A env d B e1 y1) (h2 : ∀ B, EvL c A env d B [e2, e3] [y2, y3]) (hr : ∀ a, Run c s₀ B₀ A env ⟨(x2, y2) :: (x3, y3) :: d.ρ, some (x1, a, y1)⟩ rest Q) (k1 : KindOk env x1 := by first | exact .inl rfl | exact .inr ⟨rfl, _, rfl⟩) (k2 : KindOk env x2 := by first | exact .inl rfl | exact .inr ⟨rfl, _, rfl⟩) (k3 : KindOk env x3 := by first | exact .inl rfl | exact .inr ⟨rfl, _, rfl⟩) (ho : d.own = none := by rfl) (hx1 : d.ρ.lookup x1 = none := by rfl) (hne : x1 ≠ x2 := by decide) (hne3 : x1 ≠ x3 := by decide)
    (hes : starEach [e1, e2, e3] env = (false, eval e1 env) :: starEach [e2, e3] env := by rfl)
    (hs : swapsWithSole [.Tuple [.Name x1 p1, .Name x2 p2, .Name x3 p3] k pt] (.Tuple [e1, e2, e3] k' pv) pos.line env = pure false := by rfl) (hw : swappedStores [.Tuple [.Name x1 p1, .Name x2 p2, .Name x3 p3] k pt] (.Tuple [e1, e2, e3] k' pv) env = pure (some [x1, x2, x3]) := by rfl) : Run c s₀ B₀ A env d (.Assign [.Tuple [.Name x1 p1, .Name x2 p2, .Name x3 p3] k pt] (.Tuple [e1, e2, e3] k' pv) pos :: rest) Q := by
  intro G B s E I
  refine wpAny_execs_cons (Assign_Tuple_swapped (Tuple_ ?_) hs hw)
  rw [hes]
  refine spliced_cons (h1 _ s _ _ I.pre fun a s₁ k₁ ha hc => ?_)
  have I₁ := I.reserve k₁ ha hc.live
  refine h2 _ s₁ _ _ pv I₁.pre fun vals s₂ k₂ r₂ => ?_
  obtain ⟨v2, v3, rfl, r2, r3⟩ := repl2 r₂
  refine tup_new (by simp) fun T s₃ k₃ ht => wpAny_unpackItems_tuple (items := #[.ref a, v2, v3]) hh ht fun h₄ hx₄ => ?_
  have k₄ := extKp hx₄
  have K := Kp.tr k₃ k₄
  show wpAny _ A (do holding [v2, .ref a] (bindName env x3 v3); do holding [.ref a] (bindName env x2 v2); do holding [] (bindName env x1 (.ref a)); pure ()) _ _ _
  have I₂ := (I₁.keeps k₂).keeps K
  have hc' := (hc.keeps fun _ _ e => Kp.get k₂ e).keeps fun _ _ e => Kp.get K e
  have no : ∀ x : Str, ∀ n a u, d.own = some (n, a, u) → n ≠ x := fun _ _ _ _ e => by rw [ho] at e; cases e
  refine wpAny_bind (wpAny_holding (wpAny_bindName (I₂.store k3 (no _) (r3.off (Kp.off K _)) fun s₅ _ off gk₅ I₅ => ?_)))
  refine wpAny_bind (wpAny_holding (wpAny_bindName (I₅.store k2 (no _) ((r2.off (Kp.off K _)).off off) fun s₆ _ off6 gk₆ I₆ => ?_)))
  have hg : gadd G a s₁.heap a = s₁.heap.get? a := by unfold gadd; rw [if_pos rfl]
  obtain ⟨o', e'⟩ := hc.live
  have hc6 : Cont s₆.heap (bx env d ([a] ++ B)) y1 a := contOff (contOff (hc'.sub fun b hb => bx_add hb) (fun o e => by
    have e2 := gk₅ a o' (hg.trans e')
    have e3 := Kp.get K (Kp.get k₂ e')
    have : o = o' := Option.some.inj (e.symm.trans e3)
    rw [this]; exact e2) off) (fun o e => by
    have e2 := gk₆ a o' (hg.trans e')
    have e3 := gk₅ a o' (hg.trans e')
    have : o = o' := Option.some.inj (e.symm.trans e3)
    rw [this]; exact e2) off6
  refine wpAny_bind (wpAny_holding (wpAny_bindName (I₆.storeOwn (x := x1) k1 ho ?_ I.b0 (gadd_sub (s' := s) I ha) I.lv (fresh_s0 (s' := s) I ha).2 hc6 (fresh_s0 (s' := s) I ha).1 fun s₇ _ I₇ => wpAny_pure (hr a G B s₇ E I₇))))
  show List.lookup x1 ((x2, y2) :: (x3, y3) :: d.ρ) = none
  rw [List.lookup_cons, beq_eq_false_iff_ne.mpr hne]
  show List.lookup x1 ((x3, y3) :: d.ρ) = none
  rw [List.lookup_cons, beq_eq_false_iff_ne.mpr hne3]
  exact hx1
end
end Mine
namespace Mine
section
variable {c : Cx} {s₀ : Shared} {B₀ : List Addr} {A : Around} {env : Env} {d : D} {Q : Post} {rest : List Stmt} {pos p : Pos} {B : List Addr} {G : Addr → Option Obj} {s : Shared}

/- the owned list is turned -/
theorem Inv.turnOwn {ρ : Rho} {h' : Heap} {tk : Nat} {x : Str} {a : Addr} {v v' : V} (I : Inv c s₀ B₀ G env B ⟨ρ, some (x, a, v)⟩ s) (hs : Heap.SameBut a s.heap h') (hc : Cont h' (bx env ⟨ρ, some (x, a, v)⟩ B) v' a) : Inv c s₀ B₀ G env B ⟨ρ, some (x, a, v')⟩ { s with heap := h', toks := tk } := by
  obtain ⟨m, cm, X, h1, h2⟩ := I.fr
  obtain ⟨q1, q2, q3, q4, q5⟩ := h2 x a v rfl
  have ea : bx env ⟨ρ, some (x, a, v')⟩ B = bx env ⟨ρ, some (x, a, v)⟩ B := rfl
  have hab : a ∈ bx env ⟨ρ, some (x, a, v)⟩ B := List.mem_append.mpr (.inl (List.mem_cons_self ..))
  have off : Off (bx env ⟨ρ, some (x, a, v)⟩ B) s.heap h' := fun b o hb e => hs.extBut b o (fun e' => hb (e' ▸ hab)) e
  have na : a ∉ env.locals :: env.cells.map (·.2) := fun hm => q3 (List.mem_append.mpr (.inl hm))
  refine { ek := I.ek, eg := I.eg, eb := I.eb, base₀ := I.base₀, b0 := I.b0, lv := I.lv, lk := I.lk, gk := fun b o e => hs.extBut b o (fun e' => by rw [e', q4] at e; cases e) (I.gk b o e), gl := I.gl, gc := I.gc, fr := ⟨m, cm, ?_, fun n u e => ?_, fun n b u e => ?_⟩ }
  · obtain ⟨⟨⟨h, t, e⟩, hn, hkk, hf⟩, hcell, ha, hl⟩ := X
    refine ⟨⟨⟨h', tk, by rw [e]⟩, hn.sameBut hs fun e' => na (e' ▸ List.mem_cons_self ..), fun b o e' => hs.extBut b o (fun e2 => by rw [e2, q5] at e'; cases e') (hkk b o e'), hf⟩, fun n q hq => ?_, ha, hl⟩
    exact (hcell n q hq).sameBut hs fun e' => na (e' ▸ List.mem_cons_of_mem _ (List.mem_map.mpr ⟨(n, q), mem_of_lookup hq, rfl⟩))
  · obtain ⟨w, q, r⟩ := h1 n u e
    exact ⟨w, q, r.off off⟩
  · cases e
    exact ⟨q1, hc, q3, q4, q5⟩

theorem own_name {E : Value → Shared → Prop} {Q : Value → Shared → Prop} {x : Str} {q : Pos} {a : Addr} {v : V} (P : Pre c env d B s) (ho : d.own = some (x, a, v)) (hd : (x == ("__debug__" : Str)) = false) (h : Q (.ref a) s) : wpAny (model c.prog c.w) A (eval (.Name x q) env) Q E s := by
  obtain ⟨r, _⟩ := P.ow _ _ _ ho
  rcases r with ⟨e, m, hn, hm⟩ | ⟨e, k, hk, hc⟩
  · exact wpAny_Name (wpAny_loadName_local P.ek e hn hm h) hd
  · exact wpAny_Name (wpAny_loadName_cell P.ek e hk hc h) hd

theorem ints_set : ∀ {vs : List Value} {l : List Int}, IntsAre vs l → ∀ (n : Nat) (x : Int) (t : Tok), IntsAre (vs.set n (.int x t)) (l.set n x)
  | _, _, .nil, _, _, _ => .nil
  | _, _, .cons i u r, 0, x, t => .cons x t r
  | _, _, .cons i u r, n + 1, x, t => .cons i u (ints_set r n x t)

/- x[i] = e -/
theorem run_setitem {ρ : Rho} {x : Str} {px pt : Pos} {i e : Expr} {a : Addr} {l : List Int} {k y : Int} (he : ∀ B, Ev c A env ⟨ρ, some (x, a, .li l)⟩ B e (.int y)) (hi : ∀ B, Ev c A env ⟨ρ, some (x, a, .li l)⟩ B i (.int k)) (h0 : 0 ≤ k) (hlt : k < l.length) (hr : Run c s₀ B₀ A env ⟨ρ, some (x, a, .li (l.set k.toNat y))⟩ rest Q) (hd : (x == ("__debug__" : Str)) = false := by rfl)
    (hs : swapsWith e (some (.Subscript (.Name x px) i pt)) pos.line env = pure false := by rfl) : Run c s₀ B₀ A env ⟨ρ, some (x, a, .li l)⟩ (.Assign [.Subscript (.Name x px) i pt] e pos :: rest) Q := by
  intro G B s E I
  refine wpAny_execs_cons (wpAny_Assign_Subscript (he _ s _ _ I.pre fun v s₁ k₁ r₁ => own_name (I.keeps k₁).pre rfl hd (hi _ s₁ _ _ (I.keeps k₁).pre fun w s₂ k₂ r₂ => ?_)) hs)
  obtain ⟨t, rfl⟩ := r₁
  obtain ⟨u, rfl⟩ := r₂
  have I₂ := (I.keeps k₁).keeps k₂
  obtain ⟨_, hl, vs, hp, hv⟩ := I₂.pre.ow x a (.li l) rfl
  have e1 := hv.length
  simp only [Array.length_toList] at e1
  have := hl.fit
  refine wpAny_setItem_list hp h0 (by omega) (by omega) fun h' hp' hs' => hr G B _ E (I₂.turnOwn hs' ⟨by simpa using hl, _, hp', ?_⟩)
  have := ints_set hv k.toNat y t
  simpa using this
/- x[i] += e -/
theorem run_augadd {ρ : Rho} {x : Str} {px pt : Pos} {i e : Expr} {a : Addr} {l : List Int} {k y z : Int} (hi : ∀ B, Ev c A env ⟨ρ, some (x, a, .li l)⟩ B i (.int k)) (he : ∀ B, Ev c A env ⟨ρ, some (x, a, .li l)⟩ B e (.int y)) (h0 : 0 ≤ k) (hz : l[k.toNat]? = some z) (hr : Run c s₀ B₀ A env ⟨ρ, some (x, a, .li (l.set k.toNat (z + y)))⟩ rest Q) (hd : (x == ("__debug__" : Str)) = false := by rfl)
    (ha : ∀ ov iv new, augStore i ov iv new = (do holding [new, ov, iv] (setItem ov iv new); release [new, ov, iv] []; pure .next) := by intros; rfl) : Run c s₀ B₀ A env ⟨ρ, some (x, a, .li l)⟩ (.AugAssign (.Subscript (.Name x px) i pt) .Add e pos :: rest) Q := by
  intro G B s E I
  refine wpAny_execs_cons (wpAny_AugAssign_SubscriptAny (own_name I.pre rfl hd (hi _ s _ _ I.pre fun w s₁ k₁ r₁ => ?_)) ha)
  obtain ⟨u, rfl⟩ := r₁
  have I₁ := I.keeps k₁
  obtain ⟨_, hl, vs, hp, hv⟩ := I₁.pre.ow x a (.li l) rfl
  obtain ⟨t, ht⟩ := hv.get _ _ hz
  have hlt : k.toNat < l.length := (List.getElem?_eq_some_iff.mp hz).1
  have := hl.fit
  refine wpAny_getItem_list hp h0 (by omega) (by simpa using ht) (he _ s₁ _ _ I₁.pre fun v s₂ k₂ r₂ => ?_)
  obtain ⟨t2, rfl⟩ := r₂
  have I₂ := I₁.keeps k₂
  have k₃ := Kp.tok s₂ (s₂.toks + 1)
  refine iadd_int ?_
  have I₃ := I₂.keeps k₃
  obtain ⟨_, hl3, vs3, hp3, hv3⟩ := I₃.pre.ow x a (.li l) rfl
  have e1 := hv3.length
  simp only [Array.length_toList] at e1
  refine wpAny_setItem_list hp3 h0 (by omega) (by omega) fun h' hp' hs' => hr G B _ E (I₃.turnOwn hs' ⟨by simpa using hl, _, hp', ?_⟩)
  have := ints_set hv3 k.toNat (z + y) s₂.toks
  simpa using this
/- x op= e, ints -/
theorem run_aug {x : Str} {px : Pos} {op : Operator} {e : Expr} {a b r : Int} (hx : d.ρ.lookup x = some (.int a)) (hk : KindOk env x) (ho : ∀ n a u, d.own = some (n, a, u) → n ≠ x) (he : ∀ B, Ev c A env d B e (.int b))
    (hop : ∀ (s : Shared) (t u : Tok) (E Q : Value → Shared → Prop), Q (.int r s.toks) { s with toks := s.toks + 1 } → wpAny (model c.prog c.w) A (inplaceOp op (.int a t) (.int b u)) Q E s)
    (hr : Run c s₀ B₀ A env ⟨(x, .int r) :: d.ρ, d.own⟩ rest Q) : Run c s₀ B₀ A env d (.AugAssign (.Name x px) op e pos :: rest) Q := by
  intro G B s E I
  have P := I.pre
  obtain ⟨val, rd, q⟩ := P.vw x (.int a) hx
  obtain ⟨t, rfl⟩ := q
  have hl : ∀ {Q' : Value → Shared → Prop} {E' : Value → Shared → Prop}, Q' (.int a t) s → wpAny (model c.prog c.w) A (loadName env x) Q' E' s := fun h => by
    rcases rd with ⟨e, m, hn, hm⟩ | ⟨e, k, hk, hc⟩
    · exact wpAny_loadName_local P.ek e hn hm h
    · exact wpAny_loadName_cell P.ek e hk hc h
  refine wpAny_execs_cons (wpAny_AugAssign_Name (hl (he _ s _ _ P fun w s₁ k₁ r₁ => ?_)))
  obtain ⟨u, rfl⟩ := r₁
  have k₂ := Kp.tok s₁ (s₁.toks + 1)
  exact hop s₁ t u _ _ (((I.keeps k₁).keeps k₂).store hk ho (v := .int r) ⟨_, rfl⟩ fun s₃ _ _ _ I₃ => hr G B s₃ E I₃)
theorem run_isub {x : Str} {px : Pos} {e : Expr} {a b : Int} (he : ∀ B, Ev c A env d B e (.int b))
    (hr : Run c s₀ B₀ A env ⟨(x, .int (a - b)) :: d.ρ, d.own⟩ rest Q) (hx : d.ρ.lookup x = some (.int a) := by rfl) (hk : KindOk env x := by first | exact .inl rfl | exact .inr ⟨rfl, _, rfl⟩) (ho : ∀ n a u, d.own = some (n, a, u) → n ≠ x := by intro n a u e; cases e <;> decide) : Run c s₀ B₀ A env d (.AugAssign (.Name x px) .Sub e pos :: rest) Q := run_aug hx hk ho he (fun _ _ _ _ _ h => isub_int h) hr

theorem rows_snoc {h : Heap} {b : Addr} {y : List Int} : ∀ {vs : List Value} {ls : List (List Int)}, RowsAre h B vs ls → IntsAt h B y b → RowsAre h B (vs ++ [.ref b]) (ls ++ [y])
  | _, _, .nil, hy => .cons hy .nil
  | _, _, .cons x r, hy => .cons x (rows_snoc r hy)
/- x.append(e), e a list of ints -/
theorem run_append {ρ : Rho} {x : Str} {px pa pc : Pos} {e : Expr} {a : Addr} {ls : List (List Int)} {y : List Int} (he : ∀ B, Ev c A env ⟨ρ, some (x, a, .ll ls)⟩ B e (.li y)) (hlen : LenOk (ls ++ [y]).length) (hr : Run c s₀ B₀ A env ⟨ρ, some (x, a, .ll (ls ++ [y]))⟩ rest Q) (hd : (x == ("__debug__" : Str)) = false := by rfl)
    (hb : attributeBase (.Name x px) "append" env (eval (.Name x px) env) = eval (.Name x px) env := by rfl) (hes : starEach [e] env = [(false, eval e env)] := by rfl) (hline : (pa.endLine == pc.line) = true := by rfl) (hi : interactive env = false := by rfl) (hs : swapsWith (.Call (.Attribute (.Name x px) "append" pa) [e] [] pc) none pos.line env = pure false := by rfl) : Run c s₀ B₀ A env ⟨ρ, some (x, a, .ll ls)⟩ (.Expr (.Call (.Attribute (.Name x px) "append" pa) [e] [] pc) pos :: rest) Q := by
  intro G B s E I
  refine wpAny_execs_cons (wpAny_Expr_any (Call_method1 hb hes hline (own_name I.pre rfl hd ?_)) hi hs)
  obtain ⟨_, hl, vs, ⟨n, hp⟩, hv⟩ := I.pre.ow x a (.ll ls) rfl
  refine ⟨"list", "list.append", F.plainAttrs_list, slot_list_append, type_list_append, ⟨_, hp, rfl⟩, fun b e => by cases e; exact ⟨_, hp, rfl⟩, ?_⟩
  refine callWith_builtin rfl (evalArgs_plain (spliced_cons (he _ s _ _ I.pre fun v s₁ k₁ r₁ => spliced_nil ?_)))
  have I₁ := I.keeps k₁
  obtain ⟨_, hl, vs, hp, hv⟩ := I₁.pre.ow x a (.ll ls) rfl
  obtain ⟨b, rfl, hb1, hy⟩ := r₁
  have e1 := hv.length
  simp only [Array.length_toList] at e1
  refine wpAny_list_append_plain hp (fun h' hp' hs' => hr G B _ E (I₁.turnOwn hs' ⟨hlen, _, hp', ?_⟩)) (by have := hl.line; omega)
  have hab : a ∈ bx env ⟨ρ, some (x, a, .ll ls)⟩ B := List.mem_append.mpr (.inl (List.mem_cons_self ..))
  have off : Off (bx env ⟨ρ, some (x, a, .ll ls)⟩ B) s₁.heap h' := fun b o hb e => hs'.extBut b o (fun e' => hb (e' ▸ hab)) e
  rw [Array.toList_push]
  exact rows_snoc (hv.off off) (IntsAt.off ⟨hb1, hy⟩ off)
end
end Mine
namespace Mine

def FreeOk (env : Env) (scope : Scope) (cl : List (Str × Addr)) (d : D) : Rho → Prop
  | [] => True
  | (y, v) :: r => (d.ρ.lookup y = some v ∧ (relabel scope env).names.lookup y = some .cell ∧ env.kindOf y = some .cell ∧ cl.lookup y = env.cells.lookup y) ∧ FreeOk env scope cl d r

theorem FreeOk.at {env : Env} {scope : Scope} {cl : List (Str × Addr)} {d : D} : ∀ {ρ : Rho}, FreeOk env scope cl d ρ → ∀ y v, ρ.lookup y = some v → d.ρ.lookup y = some v ∧ (relabel scope env).names.lookup y = some .cell ∧ env.kindOf y = some .cell ∧ cl.lookup y = env.cells.lookup y
  | [], _, y, v, e => by cases e
  | (z, w) :: r, h, y, v, e => by
    rw [List.lookup_cons] at e
    by_cases hz : y = z
    · subst hz
      rw [beq_self_eq_true] at e
      cases e
      exact h.1
    · rw [beq_eq_false_iff_ne.mpr hz] at e
      exact h.2.at y v e

section
variable {c : Cx} {A : Around} {env : Env} {d : D} {B : List Addr} {pos p : Pos} {s : Shared}

/- the ground of a block's turn -/
theorem comp_pre {scope : Scope} {cl : List (Str × Addr)} {C : Addr} {s₃ : Shared} {m₃ : Str → Option Value} {x : Str} {y : V} {v : Value} {ρ' : Rho} (P : Pre c env d B s) (hk : ∀ b o, s.heap.get? b = some o → s₃.heap.get? b = some o) (hkind : scope.kind = .function) (hx : scope.names.lookup x = some .local)
    (hn : s₃.heap.Ns C m₃) (hm : m₃ x = some v) (hr : Rep s₃.heap [] y v) (hf : FreeOk env scope cl d ρ') : Pre c (compEnvC scope cl C env) ⟨(x, y) :: ρ', none⟩ [] s₃ where
  ek := hkind
  eg := P.eg
  eb := P.eb
  base := P.base.keeps hk
  live := fun b hb => nomatch hb
  vw := fun n u e => by
    rw [List.lookup_cons] at e
    by_cases hnx : n = x
    · subst hnx
      rw [beq_self_eq_true] at e
      cases e
      exact ⟨v, .inl ⟨lookup_relabel_local hx, m₃, hn, hm⟩, hr⟩
    · rw [beq_eq_false_iff_ne.mpr hnx] at e
      obtain ⟨f1, f2, f3, f4⟩ := hf.at n u e
      obtain ⟨val, rd, q⟩ := P.vw n u f1
      rcases rd with ⟨e1, _⟩ | ⟨e1, k, hk', hc⟩
      · rw [f3] at e1; cases e1
      · exact ⟨val, .inr ⟨f2, k, f4.trans hk', hc.keeps hk⟩, (q.off fun b o _ e => hk b o e).sub fun b hb => nomatch hb⟩
  ow := fun _ _ _ e => nomatch e

theorem paired_ints {q : Int → Bool} {f : Int → Int} {pp : Value → Bool} (hp : ∀ n t, pp (.int n t) = q n) : ∀ {vs : List Value} {ns : List Int} {ys : List Value}, IntsAre vs ns → Paired (fun v y => ∀ n t, v = .int n t → ∃ t', y = .int (f n) t') (vs.filter pp) ys → IntsAre ys ((ns.filter q).map f)
  | _, _, ys, .nil, h => by
    cases h
    exact .nil
  | _, _, ys, .cons n t r, h => by
    rw [List.filter_cons, hp] at h
    rw [List.filter_cons]
    cases hq : q n with
    | false =>
      rw [hq] at h
      exact paired_ints hp r h
    | true =>
      rw [hq] at h
      cases h with
      | cons h1 h2 =>
        obtain ⟨t', rfl⟩ := h1 n t rfl
        exact .cons _ _ (paired_ints hp r h2)

theorem ints_of {h : Heap} : ∀ {vs : List Value} {ns : List Int}, vs.length = ns.length → (∀ (j : Nat) (v : Value), vs[j]? = some v → ∃ x, (ns.map V.int)[j]? = some x ∧ Rep h B x v) → IntsAre vs ns
  | [], [], _, _ => .nil
  | [], _ :: _, e, _ => by cases e
  | _ :: _, [], e, _ => by cases e
  | v :: vs, n :: ns, e, h => by
    obtain ⟨x, hx, hr⟩ := h 0 v rfl
    simp at hx
    subst hx
    obtain ⟨t, rfl⟩ := hr
    exact .cons n t (ints_of (by simpa using e) fun j w hj => h (j + 1) w (by simpa using hj))

def qOf (q : Int → Bool) : Value → Bool
  | .int n _ => q n
  | _ => true

inductive Tests (c : Cx) (A : Around) (env : Env) (scope : Scope) (cl : List (Str × Addr)) (x : Str) (ρ' : Rho) (ns : List Int) : List Expr → (Int → Bool) → Prop
  | none : Tests c A env scope cl x ρ' ns [] (fun _ => true)
  | one {t : Expr} {q : Int → Bool} (h : ∀ n ∈ ns, ∀ C, Tr c A (compEnvC scope cl C env) ⟨(x, .int n) :: ρ', none⟩ [] t (q n)) : Tests c A env scope cl x ρ' ns [t] q

theorem quiet {elt : Expr} {x : Str} {ifs : List Expr} {scope : Scope} {cl : List (Str × Addr)} {ns : List Int} {f : Int → Int} {q : Int → Bool} {ρ' : Rho} {s₁ s₂ : Shared} {wr : List Addr} (P : Pre c env d B s) (k₁ : Keeps s s₁) (k₂ : Keeps s₁ s₂) (hwr : ∀ b ∈ wr, s₁.heap.get? b = none)
    (hkind : scope.kind = .function) (hx : scope.names.lookup x = some .local) (hf : FreeOk env scope cl d ρ') (ht : Tests c A env scope cl x ρ' ns ifs q)
    (helt : ∀ n ∈ ns, q n = true → ∀ C, Ev c A (compEnvC scope cl C env) ⟨(x, .int n) :: ρ', none⟩ [] elt (.int (f n))) :
    QuietOnC c.prog c.w A env scope cl x ifs elt wr (fun i v => ∃ x, (ns.map V.int)[i]? = some x ∧ Rep s₁.heap B x v) (qOf q) (fun v y => ∀ n t, v = .int n t → ∃ t', y = .int (f n) t') s₂ := by
  have hold : ∀ s₃ : Shared, (∀ b o, b ∉ wr → s₂.heap.get? b = some o → s₃.heap.get? b = some o) → ∀ b o, s.heap.get? b = some o → s₃.heap.get? b = some o := fun s₃ hk b o e => hk b o (fun hm => by
    have := Kp.get k₁ e
    rw [hwr b hm] at this; cases this) (Kp.get k₂ (Kp.get k₁ e))
  have item : ∀ (i : Nat) (v : Value), (∃ x, (ns.map V.int)[i]? = some x ∧ Rep s₁.heap B x v) → ∃ n t, n ∈ ns ∧ v = .int n t := fun i v ⟨y, hy, hr⟩ => by
    rw [List.getElem?_map] at hy
    obtain ⟨n, hn, rfl⟩ := Option.map_eq_some_iff.mp hy
    obtain ⟨t, rfl⟩ := hr
    exact ⟨n, t, List.mem_of_getElem? hn, rfl⟩
  refine ⟨fun C i v s₃ m₃ E' hC hP hn hm hk htk => ?_, fun C i v s₃ m₃ E' hC hP hp hn hm hk htk => ?_⟩
  · obtain ⟨n, t, hmem, rfl⟩ := item i v hP
    have P₃ := comp_pre (y := .int n) (ρ' := ρ') P (hold s₃ hk) hkind hx hn hm ⟨t, rfl⟩ hf
    cases ht with
    | none =>
      rw [List.forIn_nil]
      exact wpAny_pure ⟨rfl, Kp.refl _⟩
    | one h =>
      rw [List.forIn_cons]
      refine wpAny_bind ?_
      rw [if_pos rfl]
      refine wpAny_bind (h n hmem C s₃ _ _ P₃ fun s₄ k₄ => wpAny_pure ?_)
      exact wpAny_pure ⟨rfl, k₄⟩
  · obtain ⟨n, t, hmem, rfl⟩ := item i v hP
    have P₃ := comp_pre (y := .int n) (ρ' := ρ') P (hold s₃ hk) hkind hx hn hm ⟨t, rfl⟩ hf
    refine helt n hmem hp C s₃ _ _ P₃ fun val s₄ k₄ r₄ => ⟨fun n' t' e => ?_, k₄⟩
    cases e
    exact r₄

theorem ev_comp {elt iter : Expr} {x : Str} {px : Pos} {ifs : List Expr} {scope : Scope} {cl : List (Str × Addr)} {ns : List Int} {f : Int → Int} {q : Int → Bool} (ρ' : Rho) (hit : It c A env d B iter (ns.map V.int))
    (hf : FreeOk env scope cl d ρ') (ht : Tests c A env scope cl x ρ' ns ifs q) (helt : ∀ n ∈ ns, q n = true → ∀ C, Ev c A (compEnvC scope cl C env) ⟨(x, .int n) :: ρ', none⟩ [] elt (.int (f n))) (hl : LenOk ns.length)
    (hclos : closureFor scope env = pure cl := by rfl) (hcell : ∀ y ∈ scope.names, y.2 ≠ .cell := by decide) (hkind : scope.kind = .function := by rfl) (hnames : ∀ y ∈ scope.names, y.2 = .local → scope.names.lookup y.1 = some .local := by decide) (hx : scope.names.lookup x = some .local := by rfl)
    (hs : ∀ x, foldedSetIterable iter env x = pure x := by intro _; rfl) : Ev c A env d B (.ListComp elt [⟨.Name x px, iter, ifs, 0⟩] scope pos) (.li ((ns.filter q).map f)) := by
  intro s E Q P hQ
  refine wpAny_ListComp_free (qOf q) (fun v y => ∀ n t, v = .int n t → ∃ t', y = .int (f n) t') hclos hcell hkind hnames hx (hit s _ _ P fun s₁ s₂ I fp wr St k₁ k₂ W hsz hst hfp hfB hwr hwl => ?_) hs
  refine ⟨I, fp, wr, _, _, St, rfl, W, hsz, hst, fun b hb => let ⟨o, e⟩ := hfp b hb; Heap.lt_size e, quiet P k₁ k₂ hwr hkind hx hf ht helt, fun D h' tk ys vs hD hp hpl hlen hP hF hk => ?_⟩
  have hi : IntsAre vs ns := ints_of (by simpa using hlen) hP
  have hys := paired_ints (fun n t => rfl) hi hF
  have hold : ∀ b o, s.heap.get? b = some o → h'.get? b = some o := fun b o e => hk b o (fun hm => by
    have := Kp.get k₁ e
    rw [hwr b hm] at this; cases this) (Kp.get k₂ (Kp.get k₁ e))
  refine hQ _ _ ?_ ⟨D, rfl, ?_, ?_, ys, hp, by simpa using hys⟩
  · obtain ⟨h1, t1, e1, q1⟩ := k₁
    obtain ⟨h2, t2, e2, q2⟩ := k₂
    subst e1
    subst e2
    exact ⟨h', tk, rfl, hold⟩
  · exact ((P.keeps k₁).keeps k₂).fresh hD
  · unfold LenOk at hl ⊢
    have : ((ns.filter q).map f).length ≤ ns.length := by simpa using List.length_filter_le q ns
    omega
end
end Mine
namespace Mine

def fenv (st : Stmt) (pm code doc : Value) (L a : Addr) : Env := callEnvC (docDef (nameOf st) (argsOf st) (bodyOf st) (scopeOf st) pm code doc) L a

theorem bindL_out (kindOf : Str → Option NameKind) {x : Str} : ∀ {binds : List (Str × Value)} {m : Str → Option Value}, (∀ p ∈ binds, p.1 ≠ x) → bindL kindOf binds m x = m x
  | [], m, _ => rfl
  | (n, v) :: r, m, h => by
    unfold bindL
    rw [bindL_out kindOf (fun p hp => h p (List.mem_cons_of_mem _ hp))]
    split
    · exact if_neg (fun e => h (n, v) (List.mem_cons_self ..) e.symm)
    · rfl
theorem bindC_out (kindOf : Str → Option NameKind) {x : Str} : ∀ {binds : List (Str × Value)} {m : Str → Option Value}, (∀ p ∈ binds, p.1 ≠ x) → bindC kindOf binds m x = m x
  | [], m, _ => rfl
  | (n, v) :: r, m, h => by
    unfold bindC
    rw [bindC_out kindOf (fun p hp => h p (List.mem_cons_of_mem _ hp))]
    split
    · rfl
    · exact if_neg (fun e => h (n, v) (List.mem_cons_self ..) e.symm)
theorem bindL_in (kindOf : Str → Option NameKind) {x : Str} {val : Value} (hk : kindOf x = some .local) : ∀ {binds : List (Str × Value)} {m : Str → Option Value}, (binds.map (·.1)).Nodup → binds.lookup x = some val → bindL kindOf binds m x = some val
  | (n, v) :: r, m, hn, e => by
    unfold bindL
    rw [List.lookup_cons] at e
    have hn' := List.nodup_cons.mp hn
    by_cases hx : x = n
    · subst hx
      rw [beq_self_eq_true] at e
      cases e
      rw [bindL_out kindOf (fun p hp e => hn'.1 (List.mem_map.mpr ⟨p, hp, e⟩)), if_pos hk]
      exact if_pos rfl
    · rw [beq_eq_false_iff_ne.mpr hx] at e
      exact bindL_in kindOf hk hn'.2 e
theorem bindC_in (kindOf : Str → Option NameKind) {x : Str} {val : Value} (hk : kindOf x = some .cell) : ∀ {binds : List (Str × Value)} {m : Str → Option Value}, (binds.map (·.1)).Nodup → binds.lookup x = some val → bindC kindOf binds m x = some val
  | (n, v) :: r, m, hn, e => by
    unfold bindC
    rw [List.lookup_cons] at e
    have hn' := List.nodup_cons.mp hn
    by_cases hx : x = n
    · subst hx
      rw [beq_self_eq_true] at e
      cases e
      rw [bindC_out kindOf (fun p hp e => hn'.1 (List.mem_map.mpr ⟨p, hp, e⟩)), if_neg (by rw [hk]; decide)]
      exact if_pos rfl
    · rw [beq_eq_false_iff_ne.mpr hx] at e
      exact bindC_in kindOf hk hn'.2 e
theorem zip_has {h : Heap} {B : List Addr} : ∀ {names : List Str} {args : List V} {vals : List Value}, RepL h B args vals → ∀ {x : Str} {v : V}, (names.zip args).lookup x = some v → ∃ val, (names.zip vals).lookup x = some val ∧ Rep h B v val
  | [], _, _, _, x, v, e => by cases e
  | n :: names, [], _, _, x, v, e => by cases e
  | n :: names, a :: args, [], r, x, v, e => r.elim
  | n :: names, a :: args, b :: vals, r, x, v, e => by
    rw [List.zip_cons_cons, List.lookup_cons] at e ⊢
    by_cases hx : x = n
    · subst hx
      rw [beq_self_eq_true] at e ⊢
      cases e
      exact ⟨b, rfl, r.1⟩
    · rw [beq_eq_false_iff_ne.mpr hx] at e ⊢
      exact zip_has r.2 e
theorem zip_keys : ∀ (names : List Str) (vals : List Value), ((names.zip vals).map (·.1)) <+: names
  | [], _ => by simp
  | _ :: _, [] => by simp
  | n :: names, v :: vals => by
    rw [List.zip_cons_cons, List.map_cons]
    exact List.cons_prefix_cons.mpr ⟨rfl, zip_keys names vals⟩
theorem cells_keys : ∀ (names : List (Str × NameKind)) (n n' : Nat) (acc acc' : List (Str × Addr)), acc.map (·.1) = acc'.map (·.1) → (cellsFrom n names acc).map (·.1) = (cellsFrom n' names acc').map (·.1)
  | [], _, _, _, _, h => h
  | (x, k) :: r, n, n', acc, acc', h => by
    unfold cellsFrom
    split
    · exact cells_keys r _ _ _ _ (by simp [h])
    · exact cells_keys r _ _ _ _ h
theorem lookup_of_mem : ∀ {l : List (Str × Addr)}, (l.map (·.1)).Nodup → ∀ {n : Str} {k : Addr}, (n, k) ∈ l → l.lookup n = some k
  | (m, q) :: r, hn, n, k, hm => by
    have hn' := List.nodup_cons.mp hn
    rw [List.lookup_cons]
    rcases List.mem_cons.mp hm with e | hm
    · cases e
      rw [beq_self_eq_true]
    · have : n ≠ m := fun e => hn'.1 (e ▸ List.mem_map.mpr ⟨(n, k), hm, rfl⟩)
      rw [beq_eq_false_iff_ne.mpr this]
      exact lookup_of_mem hn'.2 hm

theorem spec_intro {c : Cx} {i n : Nat} {args : List V} {r : V} (names : List Str)
    (h : ∀ (pm code doc : Value) (L a : Addr) (A : Around) (s₀ : Shared) (B : List Addr), Room A n → Run c s₀ B A (fenv (theFn i) pm code doc L a) ⟨names.zip args, none⟩ (bodyOf (theFn i)) (RetQ s₀ B r))
    (hi : 3 ≤ i ∧ i < 60 := by decide) (hdef : ∃ n a b d r t sc ts bi p, theFn i = .FunctionDef n a b d r t sc ts bi p := by exact ⟨_, _, _, _, _, _, _, _, _, _, rfl⟩)
    (hbind : ∀ pm code doc (vals : List Value), vals.length = args.length → bindArgs (docDef (nameOf (theFn i)) (argsOf (theFn i)) (bodyOf (theFn i)) (scopeOf (theFn i)) pm code doc) ⟨vals, []⟩ = pure (names.zip vals) := by
      intro pm code doc vals h
      first
        | (match vals, h with | [a], _ => rfl)
        | (match vals, h with | [a, b], _ => rfl)
        | (match vals, h with | [a, b, c], _ => rfl))
    (hnames : (names.all fun y => (scopeOf (theFn i)).names.lookup y == some .local || (scopeOf (theFn i)).names.lookup y == some .cell) = true := by decide +kernel) (hnd : names.Nodup := by decide) (hcn : ((cellsFrom 0 (scopeOf (theFn i)).names []).map (·.1)).Nodup := by decide +kernel)
    (hco : (scopeOf (theFn i)).isCoroutine = false := by rfl) (hgen : (scopeOf (theFn i)).isGenerator = false := by rfl) (hk : (scopeOf (theFn i)).kind = .function := by rfl) : Spec c (theFn i) args r (n + 1) := by
  intro A B s E Q f vals hf hR hB hlv hr hQ
  obtain ⟨f', o, pm, code, doc, e1, e2, e3, e4⟩ := hB.fn i hi.1 hi.2 hdef
  have : f' = f := by rw [hf] at e1; cases e1; rfl
  subst this
  refine wpAny_call (codeAny_call_cells (fd := docDef (nameOf (theFn i)) (argsOf (theFn i)) (bodyOf (theFn i)) (scopeOf (theFn i)) pm code doc) (body := bodyOf (theFn i)) (by have := hR.2.1; omega) e2 e3 hB.lim e4 rfl (hbind pm code doc vals (repl_length hr)) rfl ?_ (fun s₁ X => ?_) hco hgen hk)
  · refine kindsX (List.all_eq_true.mpr fun x hx => ?_) _
    obtain ⟨l, hl⟩ := zip_keys names vals
    exact List.all_eq_true.mp hnames x.1 (hl ▸ List.mem_append.mpr (.inl (List.mem_map_of_mem hx)))
  · have hnd' : ((names.zip vals).map (·.1)).Nodup := by
      obtain ⟨l, hl⟩ := zip_keys names vals
      rw [← hl] at hnd
      exact (List.nodup_append.mp hnd).1
    have sub : ∀ b ∈ bx (fenv (theFn i) pm code doc s.heap.objs.size f') ⟨names.zip args, none⟩ B, b ∈ (s.heap.objs.size :: (cellsFrom (s.heap.objs.size + 1) (scopeOf (theFn i)).names []).map (·.2)) ++ B := fun b hb => hb
    have dead : ∀ a, s.heap.objs.size ≤ a → s.heap.get? a = none := fun a ha => by
      cases e : s.heap.get? a with
      | none => rfl
      | some o' => exact absurd (Heap.lt_size e) (Nat.not_lt.mpr ha)
    have hlk : ∀ n k, (n, k) ∈ cellsFrom (s.heap.objs.size + 1) (scopeOf (theFn i)).names [] → (cellsFrom (s.heap.objs.size + 1) (scopeOf (theFn i)).names []).lookup n = some k := fun n k hm =>
      lookup_of_mem (by rw [cells_keys _ _ 0 _ [] rfl]; exact hcn) hm
    have I : Inv c s B (fun b => s.heap.get? b) (fenv (theFn i) pm code doc s.heap.objs.size f') B ⟨names.zip args, none⟩ s₁ := by
      refine { ek := hk, eg := rfl, eb := rfl, base₀ := hB, b0 := fun _ h => h, lv := hlv, lk := hlk, gk := fun b o e => X.toInCall.keep b o e, gl := dead _ (Nat.le_refl _), gc := fun n k hm => dead _ (Nat.le_of_lt (X.above n k hm)), fr := ⟨_, _, X, fun x v e => ?_, fun _ _ _ e => nomatch e⟩ }
      obtain ⟨val, hv, hrep⟩ := zip_has hr e
      have hk1 : Keeps s s₁ := by
        obtain ⟨⟨⟨h, t, e⟩, hn, hkk, hf⟩, _⟩ := X
        subst e
        exact ⟨h, t, rfl, hkk⟩
      refine ⟨val, ?_, ?_⟩
      · have hx : x ∈ names := by
          obtain ⟨l, hl⟩ := zip_keys names vals
          exact hl ▸ List.mem_append.mpr (.inl (List.mem_map.mpr ⟨(x, val), mem_of_lookup hv, rfl⟩))
        have hkx := List.all_eq_true.mp hnames x hx
        rcases Bool.or_eq_true_iff.mp hkx with q | q
        · have q' : (scopeOf (theFn i)).names.lookup x = some .local := by simpa using q
          exact .inl ⟨q', bindL_in _ q' hnd' hv⟩
        · have q' : (scopeOf (theFn i)).names.lookup x = some .cell := by simpa using q
          exact .inr ⟨q', Option.isSome_iff_exists.mp (cellsFrom_some _ _ _ (.inl q')), bindC_in _ q' hnd' hv⟩
      · -- nothing of the frame stood when the call began
        have w := Rep.wide (wr := s.heap.objs.size :: (cellsFrom (s.heap.objs.size + 1) (scopeOf (theFn i)).names []).map (·.2)) (fun b hb => by
          rcases List.mem_cons.mp hb with rfl | hb
          · exact dead _ (Nat.le_refl _)
          · obtain ⟨⟨n, k⟩, hm, rfl⟩ := List.mem_map.mp hb
            exact dead _ (Nat.le_of_lt (X.above n k hm))) hrep
        exact (w.sub sub).off (Kp.off hk1 _)
    exact wpAny_mono (h pm code doc s.heap.objs.size f' _ s B (Room.deeper hR _) _ _ s₁ _ I) (fun fl s' hq => hQ _ s' hq.1 hq.2) fun _ _ e => e
end Mine
namespace Mine

/- enumerate(e): what stands behind the call -/
structure EnumAt (c : Cx) (A : Around) (B : List Addr) (s s₁ s₂ : Shared) (l : List Int) (I it a : Addr) (vs : Array Value) : Prop where
  k1 : Keeps s s₁
  k2 : Keeps s₁ s₂
  hp : s₁.heap.IsList a vs
  hi : IntsAre vs.toList l
  ll : LenOk l.length
  hb : a ∉ B
  w : WalksT c.prog c.w A I [I, it, a] [I, it] vs.size (fun i vals => ∃ t x, vs[i]? = some x ∧ vals = #[.int i t, x]) (fun i h => (∃ old, IsEnum h I it i old) ∧ h.IsListIter it a i ∧ h.IsList a vs)
      (fun i T h => (∃ x, IsEnumOut h I it ((i : Int) + 1) x T) ∧ h.IsListIter it a (i + 1) ∧ h.IsList a vs ∧ T ≠ I ∧ T ≠ it)
  st : (∃ old, IsEnum s₂.heap I it (0 : Nat) old) ∧ s₂.heap.IsListIter it a 0 ∧ s₂.heap.IsList a vs
  nI : s₁.heap.get? I = none
  nit : s₁.heap.get? it = none

section
variable {c : Cx} {A : Around} {env : Env} {d : D} {B : List Addr} {pos p q : Pos}
theorem enum_call {e : Expr} {l : List Int} {s : Shared} {E Q : Value → Shared → Prop} (hh : A.handled = none) (h : Ev c A env d B e (.li l)) (P : Pre c env d B s)
    (hkind : env.kindOf "enumerate" = some .globalImplicit) (hes : starEach [e] env = (false, eval e env) :: starEach [] env) (hQ : ∀ s₁ s₂ I it a vs, EnumAt c A B s s₁ s₂ l I it a vs → Q (.ref I) s₂) :
    wpAny (model c.prog c.w) A (eval (.Call (.Name "enumerate" q) [e] [] p) env) (fun xv s₁ => wpAny (model c.prog c.w) A (pyIter xv) Q E s₁) E s := by
  refine ev_tcall (id := "enumerate") (vs := [.li l]) P (by decide) (by decide +kernel) hkind (evl_cons h evl_nil hes) ⟨_, _, rfl, hes⟩ (by rw [hes]; rfl) (by decide) (by decide) fun vals s₁ k₁ r₁ => ?_
  obtain ⟨v, rfl, r1⟩ := repl1 r₁
  obtain ⟨a, rfl, hb, hl, vs, hp, hi⟩ := r1
  have hlt : a < s₁.heap.objs.size := by
    obtain ⟨o, ho, _⟩ := hp
    exact Heap.lt_size ho
  refine call_enumerate_list hp fun h' hE hI hsz hk => ?_
  have W := WalksT.enumerate (prog := c.prog) (w := c.w) hh (s₁.heap.objs.size + 1) s₁.heap.objs.size a (Nat.succ_ne_self _) (Nat.ne_of_lt (Nat.lt_succ_of_lt hlt)) (Nat.ne_of_lt hlt) vs
  have st : (∃ old, IsEnum h' (s₁.heap.objs.size + 1) s₁.heap.objs.size (0 : Nat) old) ∧ h'.IsListIter s₁.heap.objs.size a 0 ∧ h'.IsList a vs := ⟨⟨_, hE⟩, hI, hp.at fun o e => hk a o e⟩
  have dead : ∀ b, s₁.heap.objs.size ≤ b → s₁.heap.get? b = none := fun b hb => by
    cases e : s₁.heap.get? b with
    | none => rfl
    | some o => exact absurd (Heap.lt_size e) (Nat.not_lt.mpr hb)
  exact W.self 0 _ _ _ st (hQ s₁ _ _ _ a vs ⟨k₁, Kp.heap hk, hp, hi, hl, hb, W, st, dead _ (Nat.le_succ _), dead _ (Nat.le_refl _)⟩)
end

section
variable {c : Cx} {s₀ : Shared} {B₀ : List Addr} {A : Around} {env : Env} {d : D} {Q : Post} {rest : List Stmt} {pos p q : Pos}

theorem run_for_enum {x1 x2 : Str} {p1 p2 pt : Pos} {k : Nat} {e : Expr} {body : List Stmt} {l : List Int} (ds : Nat → D) (hh : A.handled = none) (he : ∀ B, Ev c A env d B e (.li l))
    (turn : ∀ (i : Nat) (y : Int), l[i]? = some y → Run c s₀ B₀ A env ⟨(x2, .int y) :: (x1, .int i) :: (ds i).ρ, (ds i).own⟩ body (JoinQ c s₀ B₀ env (ds (i + 1)) fun _ _ _ _ => False))
    (done : Run c s₀ B₀ A env (ds l.length) rest Q) (hw : SubR (ds 0).ρ d.ρ := by repeat (first | exact trivial | refine ⟨rfl, ?_⟩)) (ho : (ds 0).own = d.own := by rfl) (hown : ∀ i, ownA (ds i).own = ownA d.own := by intro _; rfl)
    (hx1 : ∀ i n a u, (ds i).own = some (n, a, u) → n ≠ x1 := by intro i n a u e; cases e <;> decide) (hx2 : ∀ i n a u, (ds i).own = some (n, a, u) → n ≠ x2 := by intro i n a u e; cases e <;> decide)
    (k1 : KindOk env x1 := by first | exact .inl rfl | exact .inr ⟨rfl, _, rfl⟩) (k2 : KindOk env x2 := by first | exact .inl rfl | exact .inr ⟨rfl, _, rfl⟩)
    (hkind : env.kindOf "enumerate" = some .globalImplicit := by rfl) (hes : starEach [e] env = (false, eval e env) :: starEach [] env := by rfl)
    (hs : ∀ y, foldedSetIterable (.Call (.Name "enumerate" q) [e] [] p) env y = pure y := by intro _; rfl) : Run c s₀ B₀ A env d (.For (.Tuple [.Name x1 p1, .Name x2 p2] k pt) (.Call (.Name "enumerate" q) [e] [] p) body [] pos :: rest) Q := by
  intro G B s E I
  refine wpAny_execs_cons (wpAny_For (enum_call hh (he _) I.pre hkind hes fun s₁ s₂ J it a vs N => ?_) hs)
  obtain ⟨k₁, kk, hp, hi, hl, hb, W, st, nI, nit⟩ := N
  have hsz := hi.length
  simp only [Array.length_toList] at hsz
  have live : ∀ {i : Nat} {h : Heap}, ((∃ old, IsEnum h J it i old) ∧ h.IsListIter it a i ∧ h.IsList a vs) → ∀ b ∈ [J, it], ∃ o, h.get? b = some o := fun st b hb => by
    rcases List.mem_cons.mp hb with rfl | hb
    · exact let ⟨_, e⟩ := st.1; ⟨_, e⟩
    · rw [List.mem_singleton.mp hb]
      exact let ⟨o, e, _⟩ := st.2.1; ⟨o, e⟩
  have hfp : ∀ b ∈ [J, it, a], ∃ o, s₂.heap.get? b = some o := fun b hb => by
    rcases List.mem_cons.mp hb with rfl | hb
    · exact live st _ (List.mem_cons_self ..)
    · rcases List.mem_cons.mp hb with rfl | hb
      · exact live st _ (List.mem_cons_of_mem _ (List.mem_cons_self ..))
      · rw [List.mem_singleton.mp hb]
        obtain ⟨o, ho, _⟩ := hp
        exact ⟨o, Kp.get kk ho⟩
  have P₁ := (I.keeps k₁).pre
  have hwn : ∀ b ∈ [J, it], s₁.heap.get? b = none := fun b hb' => by
    rcases List.mem_cons.mp hb' with rfl | hb'
    · exact nI
    · rw [List.mem_singleton.mp hb']; exact nit
  have hfB : ∀ b ∈ [J, it, a], b ∉ bx env d B := fun b hb' => by
    rcases List.mem_cons.mp hb' with rfl | hb'
    · exact P₁.fresh nI
    · rcases List.mem_cons.mp hb' with rfl | hb'
      · exact P₁.fresh nit
      · rw [List.mem_singleton.mp hb']; exact hb
  obtain ⟨Gd, T₀⟩ := Turns.start (ds := ds) I k₁ kk W.sub hfp hfB hwn hw.at ho hown
  refine codeAny_forLoop_any (fun k s' => ∃ i, i ≤ vs.size ∧ k = vs.size - i ∧ ((∃ old, IsEnum s'.heap J it i old) ∧ s'.heap.IsListIter it a i ∧ s'.heap.IsList a vs) ∧ Turns c s₀ B₀ env B d s₁ [J, it, a] [J, it] ds i s') ?_ vs.size ⟨0, Nat.zero_le _, rfl, st, T₀⟩
  rintro k s' ⟨i, hi', rfl, hst', T⟩
  by_cases hlt : i < vs.size
  · refine W.item i s' _ _ hlt hst' fun Tp vals h₁ tk₁ hP _ hT hMid hk₁ => ?_
    obtain ⟨t, x, hx, rfl⟩ := hP
    refine W.go _ _ _ i Tp _ _ _ hMid fun h₂ hst₂ hk₂ => ?_
    have hk12 : ∀ b o, b ∉ [J, it] → s'.heap.get? b = some o → h₂.get? b = some o := fun b o hb e => hk₂ b o hb (hk₁ b o hb e)
    have T₁ := T.draw (tk := tk₁) Gd hk12 (live hst₂)
    have ht₂ : h₂.IsTuple Tp #[.int i t, x] := hT.at fun o e => hk₂ Tp o (W.apart i Tp h₁ hMid) e
    obtain ⟨n, t', rfl, hn⟩ := hi.at i x (by simpa using hx)
    refine T₁.inv.assign2 (y0 := .int i) (y1 := .int n) hh ht₂ k1 k2 (hx1 i) (hx2 i) ⟨t, rfl⟩ ⟨t', rfl⟩ fun s₃ I₃ => ?_
    refine wpAny_mono (turn i n hn _ _ s₃ _ I₃) (fun f s₄ h => ?_) fun _ _ e => e
    cases f with
    | next =>
      obtain ⟨T₄, hfk⟩ := T₁.next Gd h
      exact ⟨vs.size - (i + 1), by omega, i + 1, hlt, rfl, W.frame _ _ _ hst₂ hfk, T₄⟩
    | cont => exact h.elim
    | brk => exact h.elim
    | ret v => exact h.elim
  · have hin : i = vs.size := by omega
    subst hin
    refine W.done s' _ _ hst' fun h₁ tk₁ hk₁ => wpAny_execs_nil ?_
    have := done G B _ E (hsz ▸ T.fin (tk := tk₁) Gd I k₁ hk₁)
    exact this
end
end Mine
namespace Mine

def mapI (f : Nat → Int → Int) : Nat → List Int → List Int
  | _, [] => []
  | k, x :: l => f k x :: mapI f (k + 1) l
theorem mapI_length (f : Nat → Int → Int) : ∀ (k : Nat) (l : List Int), (mapI f k l).length = l.length
  | _, [] => rfl
  | k, x :: l => congrArg (· + 1) (mapI_length f (k + 1) l)
theorem mapI_snoc (f : Nat → Int → Int) (y : Int) : ∀ (k : Nat) (l : List Int), mapI f k (l ++ [y]) = mapI f k l ++ [f (k + l.length) y]
  | k, [] => rfl
  | k, x :: l => by
    rw [List.cons_append, mapI, mapI_snoc f y (k + 1) l, mapI, List.cons_append]
    rw [show k + 1 + l.length = k + (x :: l).length by simp only [List.length_cons]; omega]

theorem kp_via {s s' : Shared} {h : Heap} {t : Nat} (k : Keeps s s') (e : ∀ b o, s.heap.get? b = some o → h.get? b = some o) : Keeps s { s' with heap := h, toks := t } := by
  obtain ⟨h', t', rfl, _⟩ := k
  exact ⟨h, t, rfl, e⟩
section
variable {c : Cx} {A : Around} {env : Env} {d : D} {B : List Addr} {pos p q : Pos}

theorem ev_comp_enum {elt e : Expr} {x1 x2 : Str} {p1 p2 pt : Pos} {k : Nat} {scope : Scope} {cl : List (Str × Addr)} {l : List Int} (f : Nat → Int → Int) (ρ' : Rho) (hh : A.handled = none) (he : Ev c A env d B e (.li l))
    (hf : FreeOk env scope cl d ρ') (helt : ∀ (i : Nat) (y : Int), l[i]? = some y → ∀ C, Ev c A (compEnvC scope cl C env) ⟨(x2, .int y) :: (x1, .int i) :: ρ', none⟩ [] elt (.int (f i y))) (hl : LenOk l.length)
    (hclos : closureFor scope env = pure cl := by rfl) (hcell : ∀ y ∈ scope.names, y.2 ≠ .cell := by decide) (hkind : scope.kind = .function := by rfl) (hnames : ∀ y ∈ scope.names, y.2 = .local → scope.names.lookup y.1 = some .local := by decide) (hx1 : scope.names.lookup x1 = some .local := by rfl) (hx2 : scope.names.lookup x2 = some .local := by rfl)
    (hne : x1 ≠ x2 := by decide) (hkd : env.kindOf "enumerate" = some .globalImplicit := by rfl) (hes : starEach [e] env = (false, eval e env) :: starEach [] env := by rfl)
    (hs : ∀ y, foldedSetIterable (.Call (.Name "enumerate" q) [e] [] p) env y = pure y := by intro _; rfl) :
    Ev c A env d B (.ListComp elt [⟨.Tuple [.Name x1 p1, .Name x2 p2] k pt, .Call (.Name "enumerate" q) [e] [] p, [], 0⟩] scope pos) (.li (mapI f 0 l)) := by
  intro s E Q P hQ
  rw [eval_ListComp]
  refine wpAny_comprehension_free (use := none) rfl hs hclos hkind hnames (enum_call hh he P hkd hes fun s₁ s₂ J it a vs N => ?_)
  obtain ⟨k₁, kk, hp, hi, hll, hb, W, st, nI, nit⟩ := N
  have hsz := hi.length
  simp only [Array.length_toList] at hsz
  have kS : Keeps s s₂ := Kp.tr k₁ kk
  have liveJ : ∃ o, s₂.heap.get? J = some o := let ⟨_, e⟩ := st.1; ⟨_, e⟩
  have liveIt : ∃ o, s₂.heap.get? it = some o := let ⟨o, e, _⟩ := st.2.1; ⟨o, e⟩
  have liveA : ∃ o, s₂.heap.get? a = some o := let ⟨o, e, _⟩ := st.2.2; ⟨o, e⟩
  refine wpAny_newObj_type (wpAny_newFunctionEnv hcell (by intro y hy; simp at hy) (fun h₁ hns₁ hsb₁ => ?_) hkind)
  dsimp only at hns₁ hsb₁ ⊢
  generalize hH2 : s₂.heap.push { cls := .type "list", dict := none, data := .seq ([] : List Value).toArray } = H2 at hns₁ hsb₁ ⊢
  have hC : H2.objs.size = s₂.heap.objs.size + 1 := by rw [← hH2, Heap.size_push]
  generalize hD : s₂.heap.objs.size = Dd at hC ⊢
  generalize hCc : H2.objs.size = C at hns₁ hsb₁ hC ⊢
  have hDC : Dd ≠ C := by rw [hC]; exact Nat.ne_of_lt (Nat.lt_succ_self _)
  have lt₂ : ∀ {b : Addr} {o : Obj}, s₂.heap.get? b = some o → b < Dd := fun e => hD ▸ Heap.lt_size e
  have neD : ∀ {b : Addr} {o : Obj}, s₂.heap.get? b = some o → b ≠ Dd ∧ b ≠ C := fun e => ⟨Nat.ne_of_lt (lt₂ e), by rw [hC]; exact Nat.ne_of_lt (Nat.lt_succ_of_lt (lt₂ e))⟩
  have old : ∀ b o, s₂.heap.get? b = some o → h₁.get? b = some o := fun b o e => hsb₁.extBut b o (neD e).2 (Heap.get?_push_of_some _ (hH2 ▸ Heap.get?_push_of_some _ e))
  have hacc : h₁.PlainList Dd #[] := ⟨0, hsb₁.extBut _ _ hDC (Heap.get?_push_of_some _ (by rw [← hH2, ← hD]; exact Heap.get?_push_size _ rfl))⟩
  have wrD : ∀ b ∈ [J, it], b ≠ Dd ∧ b ≠ C := fun b hb => by
    rcases List.mem_cons.mp hb with rfl | hb
    · obtain ⟨o, e⟩ := liveJ; exact neD e
    · rw [List.mem_singleton.mp hb]
      obtain ⟨o, e⟩ := liveIt; exact neD e
  have fpD : ∀ b ∈ [J, it, a], b ≠ Dd ∧ b ≠ C := fun b hb => by
    rcases List.mem_cons.mp hb with rfl | hb
    · obtain ⟨o, e⟩ := liveJ; exact neD e
    · rcases List.mem_cons.mp hb with rfl | hb
      · obtain ⟨o, e⟩ := liveIt; exact neD e
      · rw [List.mem_singleton.mp hb]
        obtain ⟨o, e⟩ := liveA; exact neD e
  have wS : ∀ b o, s.heap.get? b = some o → b ∉ [J, it] := fun b o e hm => by
    have e1 := Kp.get k₁ e
    rcases List.mem_cons.mp hm with rfl | hm
    · rw [nI] at e1; cases e1
    · rw [List.mem_singleton.mp hm, nit] at e1; cases e1
  have hst₁ : (∃ old, IsEnum h₁ J it (0 : Nat) old) ∧ h₁.IsListIter it a 0 ∧ h₁.IsList a vs := W.frame 0 _ _ st fun b _ o e => old b o e
  have loop : ∀ s₃ : Shared, s₃ = { s₂ with heap := h₁, toks := s₂.toks + ([] : List (Str × Value)).length } →
      codeAny (model c.prog c.w) A (.compLoop (.ListComp elt [⟨.Tuple [.Name x1 p1, .Name x2 p2] k pt, .Call (.Name "enumerate" q) [e] [] p, [], 0⟩] scope pos) 0 (.ref J) (.ref Dd) (compEnvC scope cl C env))
        (compPost (model c.prog c.w) A E none Q (.ref Dd) C) s₃ := by
    rintro s₃ rfl
    refine PyProof.Rows.LCp.codeAny_compLoop_pair (fun n s' => ∃ i h' tk m' ys, i ≤ vs.size ∧ n = vs.size + 1 - i ∧ s' = { s₂ with heap := h', toks := tk } ∧ ((∃ old, IsEnum h' J it i old) ∧ h'.IsListIter it a i ∧ h'.IsList a vs) ∧ h'.PlainList Dd ys ∧ IntsAre ys.toList (mapI f 0 (l.take i)) ∧ h'.Ns C m' ∧
      (∀ b o, b ∉ [J, it] → s₂.heap.get? b = some o → h'.get? b = some o)) ?_ (vs.size + 1) ⟨0, h₁, _, _, #[], Nat.zero_le _, rfl, rfl, hst₁, hacc, by simpa [mapI] using IntsAre.nil, hns₁, fun b o _ e => old b o e⟩
    rintro n s' ⟨i, h', tk, m', ys, hi', rfl, rfl, hst', hacc', hys, hn', hk'⟩
    by_cases hlt : i < vs.size
    · refine W.item i _ _ _ hlt hst' fun Tp vals h₂ tk₂ hP _ hT hMid hk₂ => ?_
      obtain ⟨t, x, hx, rfl⟩ := hP
      refine W.go _ _ _ i Tp _ _ _ hMid fun h₃ hst₃ hk₃ => ?_
      have hk23 : ∀ b o, b ∉ [J, it] → h'.get? b = some o → h₃.get? b = some o := fun b o hb e => hk₃ b o hb (hk₂ b o hb e)
      have ht₃ : h₃.IsTuple Tp #[.int i t, x] := hT.at fun o e => hk₃ Tp o (W.apart i Tp h₂ hMid) e
      obtain ⟨nn, t', rfl, hnn⟩ := hi.at i x (by simpa using hx)
      have Cw : C ∉ [J, it] := fun hm => (wrD C hm).2 rfl
      have Dw : Dd ∉ [J, it] := fun hm => (wrD Dd hm).1 rfl
      refine wpAny_assign_Tuple hh ht₃ rfl rfl fun h₄ hx₄ => ?_
      replace hx₄ : Heap.ExtBut h₃.objs.size h₃ h₄ := hx₄
      have up₄ : ∀ b o, h₃.get? b = some o → h₄.get? b = some o := fun b o e => hx₄ b o (Nat.ne_of_lt (Heap.lt_size e)) e
      show wpAny _ A (do holding [.int nn t'] (assign (.Name x1 p1) (compEnvC scope cl C env) (.int i t)); do holding [] (assign (.Name x2 p2) (compEnvC scope cl C env) (.int nn t')); pure ()) _ _ _
      have hloc1 : (compEnvC scope cl C env).kindOf x1 = some .local := lookup_relabel_local hx1
      have hloc2 : (compEnvC scope cl C env).kindOf x2 = some .local := lookup_relabel_local hx2
      have hnocls : ((compEnvC scope cl C env).scope.kind == .class || ((compEnvC scope cl C env).scope.kind == .module && (compEnvC scope cl C env).locals != (compEnvC scope cl C env).globals)) = false := by simp [compEnvC, relabel, hkind]
      have hn₄ : h₄.Ns C m' := (hn'.at' fun o e => hk23 C o Cw e).keeps up₄
      refine wpAny_bind (wpAny_holding (wpAny_assign_Name (wpAny_storeName_local hloc1 hn₄ (fun h₅ hn₅ hs₅ => ?_) hnocls)))
      refine wpAny_bind (wpAny_holding (wpAny_assign_Name (wpAny_storeName_local hloc2 hn₅ (fun h₆ hn₆ hs₆ => wpAny_pure ?_) hnocls)))
      replace hs₅ : Heap.SameBut C h₄ h₅ := hs₅
      replace hs₆ : Heap.SameBut C h₅ h₆ := hs₆
      have up₆ : ∀ b o, b ≠ C → b ∉ [J, it] → h'.get? b = some o → h₆.get? b = some o := fun b o hbC hb e => hs₆.extBut b o hbC (hs₅.extBut b o hbC (up₄ b o (hk23 b o hb e)))
      have hst₆ : (∃ old, IsEnum h₆ J it ((i + 1 : Nat) : Int) old) ∧ h₆.IsListIter it a (i + 1) ∧ h₆.IsList a vs := W.frame (i + 1) _ _ hst₃ fun b hb o e => hs₆.extBut b o (fpD b hb).2 (hs₅.extBut b o (fpD b hb).2 (up₄ b o e))
      have hsS : ∀ b o, s.heap.get? b = some o → h₆.get? b = some o := fun b o e => by
        have e2 := Kp.get kS e
        exact up₆ b o (neD e2).2 (wS b o e) (hk' b o (wS b o e) e2)
      have P₆ : Pre c (compEnvC scope cl C env) ⟨(x2, .int nn) :: (x1, .int i) :: ρ', none⟩ [] { s₂ with heap := h₆, toks := tk₂ + 1 + 1 } := by
        have base := comp_pre (y := .int nn) (ρ' := ρ') (v := .int nn t') (C := C) (s₃ := { s₂ with heap := h₆, toks := tk₂ + 1 + 1 }) P hsS hkind hx2 hn₆ (by simp) ⟨t', rfl⟩ hf
        refine ⟨base.ek, base.eg, base.eb, base.base, base.live, fun n u e => ?_, base.ow⟩
        by_cases hn2 : n = x2
        · subst hn2
          rw [List.lookup_cons, beq_self_eq_true] at e
          exact base.vw n u (by rw [List.lookup_cons, beq_self_eq_true]; exact e)
        · by_cases hn1 : n = x1
          · subst hn1
            rw [List.lookup_cons, beq_eq_false_iff_ne.mpr hn2] at e
            have e : List.lookup n ((n, V.int i) :: ρ') = some u := e
            rw [List.lookup_cons, beq_self_eq_true] at e
            cases e
            exact ⟨.int i t, .inl ⟨hloc1, _, hn₆, by simp [hne]⟩, t, rfl⟩
          · rw [List.lookup_cons, beq_eq_false_iff_ne.mpr hn2] at e
            have e : List.lookup n ((x1, V.int i) :: ρ') = some u := e
            rw [List.lookup_cons, beq_eq_false_iff_ne.mpr hn1] at e
            exact base.vw n u (by rw [List.lookup_cons, beq_eq_false_iff_ne.mpr hn2]; exact e)
      refine helt i nn hnn C _ _ _ P₆ fun val s₇ k₇ r₇ => ?_
      obtain ⟨tv, rfl⟩ := r₇
      obtain ⟨h₇, tk₇, rfl, hk₇⟩ := k₇
      have hacc₇ : h₇.PlainList Dd ys := hacc'.at fun o e => hk₇ _ o (up₆ Dd o hDC Dw e)
      have hylen := hys.length
      rw [mapI_length, List.length_take] at hylen
      simp only [Array.length_toList] at hylen
      refine wpAny_list_append_plain hacc₇ (fun h₈ hl₈ hs₈ => ?_) (by have := hll.line; omega)
      refine ⟨vs.size + 1 - (i + 1), by omega, i + 1, h₈, tk₇, _, ys.push (.int (f i nn) tv), hlt, rfl, rfl, ?_, hl₈, ?_, (hn₆.keeps hk₇).sameBut hs₈ (Ne.symm hDC), fun b o hb e => hs₈.extBut b o (neD e).1 (hk₇ b o (up₆ b o (neD e).2 hb (hk' b o hb e)))⟩
      · exact W.frame (i + 1) _ _ hst₆ fun b hb o e => hs₈.extBut b o (fpD b hb).1 (hk₇ b o e)
      · obtain ⟨e1, e2⟩ : l.take (i + 1) = l.take i ++ [nn] ∧ (l.take i).length = i := ⟨by rw [List.take_add_one, hnn]; rfl, by rw [List.length_take]; omega⟩
        rw [e1, mapI_snoc, e2, Nat.zero_add, Array.toList_push]
        exact hys.append (.cons _ _ .nil)
    · have hin : i = vs.size := by omega
      subst hin
      refine W.done _ _ _ hst' fun h₂ tk₂ hk₂ => ?_
      have Cw : C ∉ [J, it] := fun hm => (wrD C hm).2 rfl
      have Dw : Dd ∉ [J, it] := fun hm => (wrD Dd hm).1 rfl
      refine ⟨m', hn'.at' fun o e => hk₂ C o Cw e, fun h₃ hs₃ => ?_⟩
      refine hQ (.ref Dd) { s₂ with heap := h₃, toks := tk₂ } (kp_via kS ?_) ⟨Dd, rfl, fun hm => ?_, by rw [mapI_length]; exact hl, ys, ((hacc'.at fun o e => hk₂ Dd o Dw e).at fun o e => hs₃.extBut Dd o hDC e).isList, ?_⟩
      · intro b o e
        have e2 := Kp.get kS e
        exact hs₃.extBut b o (neD e2).2 (hk₂ b o (wS b o e) (hk' b o (wS b o e) e2))
      · obtain ⟨o, e⟩ := P.live Dd hm
        exact (neD (Kp.get kS e)).1 rfl
      · rw [hsz, List.take_length] at hys
        exact hys
  exact codeAny_compStart_list (loop _ rfl) (W.self 0 _ _ _ hst₁ (loop _ rfl))
end
end Mine
namespace Mine

theorem lri_no_len : typeLookup (.type "list_reverseiterator") "__len__" = pure none := by rw [typeLookup_type, builtinLookup_eq_fast]; kernel_rfl
theorem lri_hint : typeLookup (.type "list_reverseiterator") "__length_hint__" = pure (some (.builtin "list_reverseiterator.__length_hint__")) := by rw [typeLookup_type, builtinLookup_eq_fast]; kernel_rfl

section
variable {prog : Program} {w : World} {A : Around} {E : Value → Shared → Prop} {s : Shared}
theorem hint_rev {I l : Addr} {i : Int} {Q : Bool → Shared → Prop} (hit : s.heap.IsRevIter I l i) (h : Q false s) : wpAny (model prog w) A (Builtin.List.listLengthHint (.ref I)) Q E s := by
  unfold Builtin.List.listLengthHint
  refine wpAny_bind (wpAny_specialOf hit.typeIs lri_no_len ?_)
  show wpAny _ A (specialOf (Value.ref I) (Str.ofString "__length_hint__") >>= _) _ _ _
  refine wpAny_bind (wpAny_specialOf hit.typeIs lri_hint ?_)
  generalize hid : ("list_reverseiterator.__length_hint__" : String) = id0
  wp_delta
  rw [show splitId id0 = some ("list_reverseiterator", "__length_hint__") from by subst hid; decide +kernel]
  subst hid
  refine wpAny_bind (wpAny_isInstance (T := "list_reverseiterator") (b := true) hit.typeIs (by rw [isSubtype_type]; kernel_rfl) ?_)
  refine wpAny_ite_split (fun hab => absurd hab (by decide)) (fun _ => ?_)
  refine wpAny_ite_split (fun _ => ?_) (fun hab => absurd (by decide +kernel) hab)
  refine wpAny_ite_split (fun hab => absurd hab (by decide +kernel)) (fun _ => ?_)
  exact wpAny_pure h

/- list(it), it a reversed list's iterator at its start -/
theorem list_rev_init {R : Result → Shared → Prop} {I l S : Addr} {items : Array Value} (hh : A.handled = none) (hne : l ≠ I) (hit : s.heap.IsRevIter I l ((items.size : Int) - 1)) (hl : s.heap.IsList l items) (hS : s.heap.get? S = some { cls := .type "list", data := .seq #[] }) (hSI : S ≠ I) (hSl : S ≠ l) (hn : items.size ≤ sizeLine)
    (hR : ∀ h' tk acc' c', (∀ b o, b ≠ S → b ≠ I → s.heap.get? b = some o → h'.get? b = some o) → h'.get? S = some { cls := .type "list", dict := none, data := .seq acc' c', slots := #[] } → ItemsOf (fun i v => items[items.size - 1 - i]? = some v) acc' items.size → R (.ok (.ret .none)) { s with heap := h', toks := tk }) :
    wpAny (model prog w) A.in1 (Builtin.«list.__init__» ⟨[.ref S, .ref I], []⟩)
      (fun fin s' => match fin with | .done f => R (.ok f) s' | .again c' => c'.quiet = true ∧ codeAny (model prog w) A c' R s') (fun e s' => R (.error e) s') s := by
  show wpAny _ A.in1 (do let old ← Builtin.List.listItems (.ref S); Builtin.List.listUpdate (.ref S) (fun _ => #[]); letGo old.toList.reverse; Builtin.List.listExtendWith (.ref S) (.ref I) .none) _ _ s
  refine wpAny_bind ?_
  unfold Builtin.List.listItems
  refine wpAny_bind (wpAny_seqItems hS rfl (wpAny_pure ?_))
  show wpAny _ A.in1 (updateSeq S (fun _ => #[]) >>= fun _ => letGo (#[] : Array Value).toList.reverse >>= fun _ => Builtin.List.listExtendWith (.ref S) (.ref I) .none) _ _ s
  refine wpAny_bind (wpAny_updateSeq hS rfl ?_)
  have hS₂ := Heap.get?_update_self (Obj.mapSeq (fun _ => (#[] : Array Value))) hS rfl
  generalize hH : s.heap.update S (Obj.mapSeq (fun _ => (#[] : Array Value))) = H at hS₂ ⊢
  have oth : ∀ b o, b ≠ S → s.heap.get? b = some o → H.get? b = some o := fun b o hb e => by
    rw [← hH]; exact (Heap.get?_update_other _ _ (Ne.symm hb)).trans e
  refine wpAny_bind (wpAny_letGo ?_)
  have hit₂ : H.IsRevIter I l ((items.size : Int) - 1) := hit.at fun o e => oth I o (Ne.symm hSI) e
  have hl₂ : H.IsList l items := hl.at fun o e => oth l o (Ne.symm hSl) e
  unfold Builtin.List.listExtendWith
  refine wpAny_bind (wpAny_typeOf (T := "list_reverseiterator") hit₂.typeIs ?_)
  have h1 : Builtin.List.listSameRef (.ref S) (.ref I) = false := by simp [Builtin.List.listSameRef, hSI]
  have h2 : (Value.type "list_reverseiterator" == Value.type "list") = false := by decide
  have h3 : (Value.type "list_reverseiterator" == Value.type "tuple") = false := by decide
  simp only [h1, h2, h3, Bool.or_false, Bool.false_eq_true, if_false]
  refine wpAny_bind (wpAny_pyIter_revIter hit₂ ?_)
  refine wpAny_bind (wpAny_holding (hint_rev hit₂ ?_))
  refine wpAny_ite_split (fun hab => absurd hab (by decide +kernel)) (fun _ => ?_)
  have W := (Walks.listRev (prog := prog) (w := w) (A := A.in1) hh I l hne items).toS
  have hSf : S ∉ [I, l] := fun hm => by
    rcases List.mem_cons.mp hm with e | hm
    · exact hSI e
    · exact hSl (List.mem_singleton.mp hm)
  refine wpAny_pure ⟨plainId_quiet F.plain_extend_loop _, codeAny_extend_loopS W hn S hSf .none items.size 0 _ #[] _ rfl (Nat.zero_le _) ⟨Nat.zero_le _, by simpa using hit₂, hl₂⟩ hS₂ (ItemsOf.nil _) fun s' acc' c' hm hS' hacc => ?_⟩
  rw [Moved.eq_with hm]
  refine hR s'.heap s'.toks acc' c' (fun b o hb hbI e => hm.heap b o (fun hmem => ?_) (oth b o hb e)) hS' hacc
  rcases List.mem_cons.mp hmem with e' | hmem
  · exact hb e'
  · exact hbI (List.mem_singleton.mp hmem)

theorem call_list_rev {Q : Value → Shared → Prop} {I l : Addr} {items : Array Value} (hh : A.handled = none) (hne : l ≠ I) (hit : s.heap.IsRevIter I l ((items.size : Int) - 1)) (hl : s.heap.IsList l items) (hn : items.size ≤ sizeLine)
    (hQ : ∀ h' tk acc' c', (∀ b o, b ≠ I → s.heap.get? b = some o → h'.get? b = some o) → h'.get? s.heap.objs.size = some { cls := .type "list", dict := none, data := .seq acc' c', slots := #[] } → ItemsOf (fun i v => items[items.size - 1 - i]? = some v) acc' items.size → Q (.ref s.heap.objs.size) { s with heap := h', toks := tk }) :
    wpAny (model prog w) A (call (.type "list") [.ref I]) Q E s := by
  have hI : I < s.heap.objs.size := by
    obtain ⟨o, e, _⟩ := hit
    exact Heap.lt_size e
  have hL : l < s.heap.objs.size := by
    obtain ⟨o, e, _⟩ := hl
    exact Heap.lt_size e
  refine callType_codes (Q₁ := fun obj s₁ => obj = .ref s.heap.objs.size ∧ s₁ = { s with heap := s.heap.push { cls := .type "list", data := .seq #[] } }) F.called_list (F.typeCall_list_1 _) F.entry_list_init
    (code_list_new _ ⟨rfl, rfl⟩) fun obj s₁ h₁ => ?_
  obtain ⟨rfl, rfl⟩ := h₁
  have hS : (s.heap.push { cls := .type "list", data := .seq #[] }).get? s.heap.objs.size = some { cls := .type "list", data := .seq #[] } := Heap.get?_push_size _ rfl
  refine ⟨⟨_, hS, rfl⟩, F.args_list_init_2 _ _, list_rev_init (A := A.in1) hh hne (hit.at fun o e => Heap.get?_push_of_some _ e) (hl.push _) hS (Ne.symm (Nat.ne_of_lt hI)) (Ne.symm (Nat.ne_of_lt hL)) hn fun h' tk acc' c' hk hS' hacc => ?_⟩
  exact ⟨rfl, hQ h' tk acc' c' (fun b o hb e => hk b o (Nat.ne_of_lt (Heap.lt_size e)) hb (Heap.get?_push_of_some _ e)) hS' hacc⟩
end

section
variable {c : Cx} {A : Around} {env : Env} {d : D} {B : List Addr} {pos p q : Pos}
/- list(reversed(e)) -/
theorem ev_listrev {e : Expr} {l : List Int} {q1 q2 p2 : Pos} (hh : A.handled = none) (h : Ev c A env d B e (.li l)) (hkr : env.kindOf "reversed" = some .globalImplicit := by rfl) (hkl : env.kindOf "list" = some .globalImplicit := by rfl)
    (hes : starEach [e] env = (false, eval e env) :: starEach [] env := by rfl) (hes2 : starEach [.Call (.Name "reversed" q2) [e] [] p2] env = (false, eval (.Call (.Name "reversed" q2) [e] [] p2) env) :: starEach [] env := by rfl) :
    Ev c A env d B (.Call (.Name "list" q1) [.Call (.Name "reversed" q2) [e] [] p2] [] p) (.li l.reverse) := by
  intro s E Q P hQ
  refine wpAny_Call_Name_kw (Name_function_global P.ek hkl (loadGlobal_builtin (by rw [P.eg]; exact P.base.g) (P.base.free _ (by decide)) (by rw [P.eb]; exact P.base.b) ((P.base.boot _ (by decide)).trans PyProof.Rows.boot_list) ?_) (by decide))
  refine PyProof.Rows.callWith_type (by rw [hes2]; rfl) ?_
  rw [hes2]
  refine evalArgs_plain (spliced_cons ?_)
  refine ev_tcall (id := "reversed") (vs := [.li l]) P (by decide) boot_reversed hkr (evl_cons h evl_nil hes) ⟨_, _, rfl, hes⟩ (by rw [hes]; rfl) (by decide) (by decide) fun vals s₁ k₁ r₁ => ?_
  obtain ⟨v, rfl, r1⟩ := repl1 r₁
  obtain ⟨a, rfl, hb, hl, vs, hp, hi⟩ := r1
  have hsz := hi.length
  simp only [Array.length_toList] at hsz
  refine call_reversed_list hp (spliced_nil ?_)
  have hne : a ≠ s₁.heap.objs.size := by
    obtain ⟨o, ho, _⟩ := hp
    exact Nat.ne_of_lt (Heap.lt_size ho)
  have hit : (s₁.heap.push (revObj a ((vs.size : Int) - 1))).IsRevIter s₁.heap.objs.size a ((vs.size : Int) - 1) := ⟨_, Heap.get?_push_size _ rfl, rfl, rfl⟩
  refine call_list_rev hh hne hit (hp.push _) (by have := hl.line; omega) fun h' tk acc' c' hk hS hacc => ?_
  have hold : ∀ b o, s₁.heap.get? b = some o → h'.get? b = some o := fun b o e => hk b o (Nat.ne_of_lt (Heap.lt_size e)) (Heap.get?_push_of_some _ e)
  refine hQ _ { s₁ with heap := h', toks := tk } (Kp.tr k₁ (Kp.heap hold)) ⟨_, rfl, fun hm => ?_, by simpa using hl, acc', ⟨_, hS, rfl, c', rfl⟩, ?_⟩
  · obtain ⟨o, e⟩ := (P.keeps k₁).live _ hm
    have h1 := Heap.lt_size e
    rw [Heap.size_push] at h1
    exact absurd h1 (Nat.not_lt.mpr (Nat.le_succ _))
  · refine ints_of (B := []) (h := h') ?_ fun j v hv => ?_
    · have := hacc.1
      simpa [hsz] using this
    · obtain ⟨n, t, rfl, hn⟩ := hi.at (vs.size - 1 - j) v (by
        have := hacc.2 j v (by simpa using hv)
        simpa using this)
      have hj : j < l.length := by
        have := (List.getElem?_eq_some_iff.mp hv).1
        have h2 := hacc.1
        simp only [Array.length_toList] at this
        omega
      exact ⟨V.int n, by rw [List.getElem?_map, List.getElem?_reverse hj, show l.length - 1 - j = vs.size - 1 - j by omega, hn]; rfl, t, rfl⟩
end
end Mine
namespace Mine

theorem gcd_spec (c : Cx) (a b : Int) : Spec c (theFn 3) [.int a, .int b] (.int (Int.gcd a b)) 1 := by
  refine spec_intro (n := 0) ["a", "b"] fun pm code doc L f A s₀ B hR => ?_
  refine run_swap2 hR.1 (fun B => evl_cons (ev_abs (ev_name rfl)) (evl_cons (ev_abs (ev_name rfl)) evl_nil)) ?_
  refine run_while (σ := Nat × Nat) (fun x => ⟨[("a", .int x.1), ("b", .int x.2)], none⟩) (fun n x => n = x.2 ∧ Nat.gcd x.1 x.2 = Int.gcd a b) (fun x => ((x.2 : Int) != 0)) ?_ ?_ ?_ _ (a.natAbs, b.natAbs) ⟨rfl, rfl⟩
  · exact fun n x _ B => tr_cmp (ev_ne (ev_name rfl) ev_int)
  · rintro n ⟨x, y⟩ ⟨hn, hx⟩ hc
    have hn : n = y := hn
    have hx : Nat.gcd x y = Int.gcd a b := hx
    have hy : (y : Int) ≠ 0 := by simpa using hc
    refine run_swap2 hR.1 (fun B => evl_cons (ev_name rfl) (evl_cons (ev_mod (ev_name rfl) (ev_name rfl) hy) evl_nil)) ?_
    have e : ((x : Int).fmod y) = ((x % y : Nat) : Int) := by
      rw [Int.fmod_eq_emod_of_nonneg _ (by omega)]
      rfl
    rw [e]
    refine run_loopend (d' := ⟨[("a", .int y), ("b", .int (x % y : Nat))], none⟩) ⟨x % y, (y, x % y), ?_, ⟨rfl, ?_⟩, rfl⟩
    · rw [hn]; exact Nat.mod_lt _ (by omega)
    · rw [← hx]
      show Nat.gcd y (x % y) = Nat.gcd x y
      rw [Nat.gcd_comm, ← Nat.gcd_rec, Nat.gcd_comm]
  · rintro n ⟨x, y⟩ ⟨hn, hx⟩ hc
    have hx : Nat.gcd x y = Int.gcd a b := hx
    have hy : y = 0 := by
      have : ((y : Int) != 0) = false := hc
      simpa using this
    subst hy
    have e : Int.gcd a b = x := by rw [← hx]; exact Nat.gcd_zero_right x
    rw [e]
    exact run_return retQ_ok fun B => ev_name rfl

def gcdAll (l : List Int) : Nat := l.foldl (fun f n => Nat.gcd f n.natAbs) 0
theorem gcd_all_spec (c : Cx) (l : List Int) : Spec c (theFn 4) [.li l] (.int (gcdAll l)) 2 := by
  refine spec_intro (n := 1) ["numbers"] fun pm code doc L f A s₀ B hR => ?_
  refine run_assign (fun B => ev_int) ?_
  refine run_for (fun i => ⟨[("found", .int ((l.take i).foldl (fun f n => Nat.gcd f n.natAbs) 0 : Nat))], none⟩) (fun B => it_li hR.1 (ev_name rfl)) ?_ ?_
  · intro i v hv
    rw [List.getElem?_map] at hv
    obtain ⟨n, hn, rfl⟩ := Option.map_eq_some_iff.mp hv
    refine run_assign (fun B => ev_call (gcd_spec c _ _) hR (evl_cons (ev_name rfl) (evl_cons (ev_name rfl) evl_nil))) ?_
    refine run_end ⟨?_, trivial⟩
    have : l.take (i + 1) = l.take i ++ [n] := by rw [List.take_add_one, hn]; rfl
    rw [this, List.foldl_append]
    rfl
  · rw [List.length_map, List.take_length]
    exact run_return retQ_ok fun B => ev_name rfl

/- ztrim -/
def trimP : List Int → List Int
  | [] => []
  | x :: xs => match trimP xs with
    | [] => if x = 0 then [] else [x]
    | y :: r => x :: y :: r
theorem trimP_zero : ∀ l : List Int, trimP (l ++ [0]) = trimP l
  | [] => rfl
  | x :: xs => by
    show (match trimP (xs ++ [0]) with | [] => if x = 0 then [] else [x] | y :: r => x :: y :: r) = _
    rw [trimP_zero xs]
    rfl
theorem trimP_ne {y : Int} (hy : y ≠ 0) : ∀ l : List Int, trimP (l ++ [y]) = l ++ [y]
  | [] => by
    show (match trimP [] with | [] => if y = 0 then [] else [y] | z :: r => y :: z :: r) = [y]
    show (if y = 0 then [] else [y]) = [y]
    rw [if_neg hy]
  | x :: xs => by
    show (match trimP (xs ++ [y]) with | [] => if x = 0 then [] else [x] | z :: r => x :: z :: r) = _
    rw [trimP_ne hy xs]
    cases h : xs ++ [y] with
    | nil => simp at h
    | cons z r => simp [h]
theorem trimP_length : ∀ l : List Int, (trimP l).length ≤ l.length
  | [] => Nat.le_refl _
  | x :: xs => by
    have ih := trimP_length xs
    show (match trimP xs with | [] => if x = 0 then [] else [x] | y :: r => x :: y :: r).length ≤ xs.length + 1
    split
    · split <;> simp
    · rename_i y r h
      rw [h] at ih
      simp at ih ⊢
      omega
theorem take_snoc {l : List Int} {n : Nat} {x : Int} (h : l[n]? = some x) : l.take (n + 1) = l.take n ++ [x] := by rw [List.take_add_one, h]; rfl

theorem ztrim_spec (c : Cx) (l : List Int) : Spec c (theFn 6) [.li l] (.li (trimP l)) 1 := by
  refine spec_intro (n := 0) ["row"] fun pm code doc L f A s₀ B hR => ?_
  refine run_assign (fun B => ev_len (ev_name rfl)) ?_
  refine run_while (σ := Nat) (fun k => ⟨[("size", .int k), ("row", .li l)], none⟩) (fun n k => n = k ∧ k ≤ l.length ∧ trimP (l.take k) = trimP l) (fun k => decide ((0 : Int) < k) && ((l.getD (k - 1) 0) == 0)) ?_ ?_ ?_ _ l.length ⟨rfl, Nat.le_refl _, by rw [List.take_length]⟩
  · rintro n k ⟨_, hk, _⟩ B
    refine tr_and2 (tr_cmp (ev_gt (ev_name rfl) ev_int)) fun h => tr_cmp (ev_eq (ev_item (ev_name rfl) (ev_sub (ev_name rfl) ev_int) ?_ ?_) ev_int)
    · have := of_decide_eq_true h; omega
    · have := of_decide_eq_true h
      have e : ((k : Int) - 1).toNat = k - 1 := by omega
      rw [e, List.getD_eq_getElem?_getD, List.getElem?_eq_getElem (by omega)]
      rfl
  · rintro n k ⟨hn, hk, ht⟩ hc
    obtain ⟨h1, h2⟩ := Bool.and_eq_true_iff.mp hc
    have h1 := of_decide_eq_true h1
    have h2 : l.getD (k - 1) 0 = 0 := by simpa using h2
    refine run_isub (fun B => ev_int) ?_
    have e : (k : Int) - 1 = ((k - 1 : Nat) : Int) := by omega
    rw [e]
    refine run_loopend (d' := ⟨[("size", .int (k - 1 : Nat)), ("row", .li l)], none⟩) ⟨k - 1, k - 1, by omega, ⟨rfl, by omega, ?_⟩, rfl⟩
    have hg : l[k - 1]? = some 0 := by
      rw [List.getD_eq_getElem?_getD, List.getElem?_eq_getElem (by omega)] at h2
      rw [List.getElem?_eq_getElem (by omega)]
      simpa using h2
    have := take_snoc hg
    rw [show k - 1 + 1 = k by omega] at this
    rw [this, trimP_zero] at ht
    exact ht
  · rintro n k ⟨hn, hk, ht⟩ hc
    have e : l.take ((k : Int)).toNat = trimP l := by
      rw [Int.toNat_natCast]
      rcases Nat.eq_zero_or_pos k with h0 | hp
      · subst h0
        rw [← ht]
        rfl
      · have hg : l[k - 1]? = some (l[k - 1]'(by omega)) := List.getElem?_eq_getElem (by omega)
        have hs := take_snoc hg
        rw [show k - 1 + 1 = k by omega] at hs
        have hne : l[k - 1]'(by omega) ≠ 0 := by
          intro h
          have h1 : decide ((0 : Int) < k) = true := decide_eq_true (by omega)
          have h2 : (l.getD (k - 1) 0 == 0) = true := by
            rw [List.getD_eq_getElem?_getD, hg]
            simpa using h
          rw [h1, h2] at hc
          cases hc
        rw [← ht, hs, trimP_ne hne]
    rw [← e]
    exact run_return retQ_ok fun B => ev_listcopy (ev_upto (ev_name rfl) (ev_name rfl) (by omega))

theorem zdegree_spec (c : Cx) (l : List Int) : Spec c (theFn 7) [.li l] (.int (l.length - 1)) 1 := by
  refine spec_intro (n := 0) ["p"] fun pm code doc L f A s₀ B hR => ?_
  exact run_return retQ_ok fun B => ev_sub (ev_len (ev_name rfl)) ev_int

def leadP (l : List Int) : Int := l.getLastD 0
theorem last_item {l : List Int} (h : l ≠ []) : l[((-1 : Int) + l.length).toNat]? = some (leadP l) := by
  have hp : 0 < l.length := List.length_pos_iff.mpr h
  have e : ((-1 : Int) + l.length).toNat = l.length - 1 := by omega
  rw [e, ← List.getLast?_eq_getElem?, leadP, List.getLastD_eq_getLast?, List.getLast?_eq_some_getLast h]
  rfl
theorem ev_last {c : Cx} {A : Around} {env : Env} {d : D} {B : List Addr} {p : Pos} {e i : Expr} {l : List Int} (h1 : Ev c A env d B e (.li l)) (h2 : Ev c A env d B i (.int (-1))) (h : l ≠ []) (hs : SubInt i := by intro _ _ _; with_unfolding_all rfl) : Ev c A env d B (.Subscript e i p) (.int (leadP l)) := by
  have hp : 0 < l.length := List.length_pos_iff.mpr h
  exact ev_itemneg h1 h2 (by omega) (by omega) (last_item h) hs
theorem zlead_spec (c : Cx) (l : List Int) : Spec c (theFn 8) [.li l] (.int (leadP l)) 1 := by
  refine spec_intro (n := 0) ["p"] fun pm code doc L f A s₀ B hR => ?_
  refine run_return retQ_ok fun B => ?_
  refine ev_if (tr_cmp (ev_gt (ev_len (ev_name rfl)) ev_int)) (fun h => ?_) fun h => ?_
  · have := of_decide_eq_true h
    exact ev_last (ev_name rfl) (ev_neg ev_int) (fun e => by rw [e] at this; simp at this)
  · have := of_decide_eq_false h
    have : l = [] := by
      cases l with
      | nil => rfl
      | cons _ _ => simp at this
    subst this
    exact ev_int
end Mine
namespace Mine

def uptoI (a : Int) (n : Nat) : List Int := (List.range n).map fun (i : Nat) => a + (i : Int)
theorem upto_eq (a : Int) (n : Nat) : upto a n = (uptoI a n).map V.int := by
  unfold upto uptoI
  rw [List.map_map]
  rfl
theorem mem_uptoI {a : Int} {n : Nat} {x : Int} (h : x ∈ uptoI a n) : a ≤ x ∧ x < a + n := by
  obtain ⟨i, hi, rfl⟩ := List.mem_map.mp h
  have := List.mem_range.mp hi
  omega
theorem uptoI_length (a : Int) (n : Nat) : (uptoI a n).length = n := by simp [uptoI]
theorem getD_get {l : List Int} {k : Nat} (h : k < l.length) : l[k]? = some (l.getD k 0) := by
  rw [List.getD_eq_getElem?_getD, List.getElem?_eq_getElem h]
  rfl
theorem getD_out {l : List Int} {k : Nat} (h : l.length ≤ k) : l.getD k 0 = 0 := by
  rw [List.getD_eq_getElem?_getD, List.getElem?_eq_none h]
  rfl
theorem filter_tt (l : List Int) : l.filter (fun _ => true) = l := List.filter_eq_self.mpr fun _ _ => rfl

section
variable {c : Cx} {A : Around} {env : Env} {d : D} {B : List Addr} {pos p : Pos}
/- a block without a test -/
theorem ev_compT {elt iter : Expr} {x : Str} {px : Pos} {scope : Scope} {cl : List (Str × Addr)} {ns : List Int} (f : Int → Int) (ρ' : Rho) (hit : It c A env d B iter (ns.map V.int))
    (hf : FreeOk env scope cl d ρ') (helt : ∀ n ∈ ns, ∀ C, Ev c A (compEnvC scope cl C env) ⟨(x, .int n) :: ρ', none⟩ [] elt (.int (f n))) (hl : LenOk ns.length)
    (hclos : closureFor scope env = pure cl := by rfl) (hcell : ∀ y ∈ scope.names, y.2 ≠ .cell := by decide) (hkind : scope.kind = .function := by rfl) (hnames : ∀ y ∈ scope.names, y.2 = .local → scope.names.lookup y.1 = some .local := by decide) (hx : scope.names.lookup x = some .local := by rfl)
    (hs : ∀ x, foldedSetIterable iter env x = pure x := by intro _; rfl) : Ev c A env d B (.ListComp elt [⟨.Name x px, iter, [], 0⟩] scope pos) (.li (ns.map f)) := by
  have := ev_comp (c := c) (A := A) (env := env) (d := d) (B := B) (pos := pos) (px := px) (f := f) (q := fun _ => true) ρ' hit hf .none (fun n hn _ C => helt n hn C) hl hclos hcell hkind hnames hx hs
  rw [filter_tt] at this
  exact this
end

def addL : List Int → List Int → List Int
  | [], b => b
  | x :: a, [] => x :: a
  | x :: a, y :: b => (x + y) :: addL a b
theorem addL_length : ∀ a b : List Int, (addL a b).length = max a.length b.length
  | [], b => by simp [addL]
  | x :: a, [] => by simp [addL]
  | x :: a, y :: b => by
    show (addL a b).length + 1 = _
    rw [addL_length a b]
    simp only [List.length_cons]
    omega
theorem addL_getD : ∀ (a b : List Int) (i : Nat), (addL a b).getD i 0 = a.getD i 0 + b.getD i 0
  | [], b, i => by simp [addL]
  | x :: a, [], i => by simp [addL]
  | x :: a, y :: b, 0 => by simp [addL]
  | x :: a, y :: b, i + 1 => by
    have := addL_getD a b i
    simpa [addL] using this
theorem ext_getD {a b : List Int} (h : a.length = b.length) (hd : ∀ i, i < a.length → a.getD i 0 = b.getD i 0) : a = b := by
  refine List.ext_getElem h fun i h1 h2 => ?_
  have := hd i h1
  simpa [List.getD_eq_getElem?_getD, List.getElem?_eq_getElem h1, List.getElem?_eq_getElem h2] using this
theorem map_upto_getD (f : Int → Int) (a : Int) (n i : Nat) (h : i < n) : ((uptoI a n).map f).getD i 0 = f (a + i) := by
  simp [uptoI, List.getD_eq_getElem?_getD, h]

def addP (a b : List Int) : List Int := trimP (addL a b)
theorem zadd_spec (c : Cx) (a b : List Int) : Spec c (theFn 9) [.li a, .li b] (.li (addP a b)) 2 := by
  refine spec_intro (n := 1) ["a", "b"] fun pm code doc L f A s₀ B hR => ?_
  refine run_assign (fun B => ev_max hR.1 (ev_len (ev_name rfl)) (ev_len (ev_name rfl))) ?_
  have key : (uptoI 0 (max a.length b.length)).map (fun i => (if decide (i < (a.length : Int)) then a.getD i.toNat 0 else 0) + (if decide (i < (b.length : Int)) then b.getD i.toNat 0 else 0)) = addL a b := by
    refine ext_getD (by rw [List.length_map, uptoI_length, addL_length]) fun i hi => ?_
    rw [List.length_map, uptoI_length] at hi
    rw [map_upto_getD _ _ _ _ hi, addL_getD]
    have e : ((0 : Int) + (i : Int)).toNat = i := by omega
    rw [e]
    congr 1
    · by_cases h : i < a.length
      · rw [if_pos (decide_eq_true (by omega))]
      · rw [if_neg (by simp; omega), getD_out (by omega)]
    · by_cases h : i < b.length
      · rw [if_pos (decide_eq_true (by omega))]
      · rw [if_neg (by simp; omega), getD_out (by omega)]
  intro G B s E I
  have hla : LenOk a.length := by
    obtain ⟨val, _, q⟩ := I.pre.vw "a" (.li a) rfl
    obtain ⟨_, _, _, hl, _⟩ := q
    exact hl
  have hlb : LenOk b.length := by
    obtain ⟨val, _, q⟩ := I.pre.vw "b" (.li b) rfl
    obtain ⟨_, _, _, hl, _⟩ := q
    exact hl
  have hm : LenOk (max a.length b.length) := by unfold LenOk at *; omega
  refine (run_return retQ_ok fun B => ev_call (ztrim_spec c (addL a b)) hR (evl_cons ?_ evl_nil)) G B s E I
  rw [← key]
  refine ev_compT _ [("a", .li a), ("b", .li b)] (upto_eq _ _ ▸ it_range1 hR.1 (ev_name rfl) (by omega) hm (by omega)) ⟨⟨rfl, rfl, rfl, rfl⟩, ⟨rfl, rfl, rfl, rfl⟩, trivial⟩ (fun n hn C => ?_) (by rw [uptoI_length]; exact hm)
  have hn' := mem_uptoI hn
  refine ev_add (ev_if_int (tr_cmp (ev_lt (ev_name rfl) (ev_len (ev_name rfl)))) (fun h => ?_) fun h => ev_int) (ev_if_int (tr_cmp (ev_lt (ev_name rfl) (ev_len (ev_name rfl)))) (fun h => ?_) fun h => ev_int)
  · have := of_decide_eq_true h
    exact ev_item (ev_name rfl) (ev_name rfl) hn'.1 (getD_get (by omega))
  · have := of_decide_eq_true h
    exact ev_item (ev_name rfl) (ev_name rfl) hn'.1 (getD_get (by omega))

theorem run_lenok {c : Cx} {s₀ : Shared} {B₀ : List Addr} {A : Around} {env : Env} {d : D} {Q : Post} {ss : List Stmt} (x : Str) {l : List Int} (hx : d.ρ.lookup x = some (.li l)) (h : LenOk l.length → Run c s₀ B₀ A env d ss Q) : Run c s₀ B₀ A env d ss Q := fun G B s E I => by
  obtain ⟨val, _, q⟩ := I.pre.vw x (.li l) hx
  obtain ⟨_, _, _, hl, _⟩ := q
  exact h hl G B s E I
theorem run_lenokll {c : Cx} {s₀ : Shared} {B₀ : List Addr} {A : Around} {env : Env} {d : D} {Q : Post} {ss : List Stmt} (x : Str) {l : List (List Int)} (hx : d.ρ.lookup x = some (.ll l)) (h : LenOk l.length → Run c s₀ B₀ A env d ss Q) : Run c s₀ B₀ A env d ss Q := fun G B s E I => by
  obtain ⟨val, _, q⟩ := I.pre.vw x (.ll l) hx
  obtain ⟨_, _, _, hl, _⟩ := q
  exact h hl G B s E I

def negP (l : List Int) : List Int := l.map fun n => -n
theorem zneg_spec (c : Cx) (l : List Int) : Spec c (theFn 10) [.li l] (.li (negP l)) 1 := by
  refine spec_intro (n := 0) ["p"] fun pm code doc L f A s₀ B hR => ?_
  refine run_lenok "p" rfl fun hl => ?_
  exact run_return retQ_ok fun B => ev_compT _ [] (it_li hR.1 (ev_name rfl)) trivial (fun n hn C => ev_neg (ev_name rfl)) hl

def subP (a b : List Int) : List Int := addP a (negP b)
theorem zsub_spec (c : Cx) (a b : List Int) : Spec c (theFn 11) [.li a, .li b] (.li (subP a b)) 3 := by
  refine spec_intro (n := 2) ["a", "b"] fun pm code doc L f A s₀ B hR => ?_
  exact run_return retQ_ok fun B => ev_call (zadd_spec c a (negP b)) hR (evl_cons (ev_name rfl) (evl_cons (ev_call (zneg_spec c b) (hR.mono (by omega)) (evl_cons (ev_name rfl) evl_nil)) evl_nil))

def scaleP (l : List Int) (k : Int) : List Int := if (k != 0) then l.map (fun n => n * k) else []
theorem zscale_spec (c : Cx) (l : List Int) (k : Int) (hk : Sm k) : Spec c (theFn 12) [.li l, .int k] (.li (scaleP l k)) 1 := by
  refine spec_intro (n := 0) ["p", "k"] fun pm code doc L f A s₀ B hR => ?_
  refine run_lenok "p" rfl fun hl => ?_
  refine run_return retQ_ok fun B => ev_if_li (tr_cmp (ev_ne (ev_name rfl) ev_int)) (fun h => ?_) fun h => ev_list (l := []) evl_nil (by unfold LenOk; simp)
  exact ev_compT _ [("k", .int k)] (it_li hR.1 (ev_name rfl)) ⟨⟨rfl, rfl, rfl, rfl⟩, trivial⟩ (fun n hn C => ev_mul (ev_name rfl) (ev_name rfl) hk.mul_right) hl

def raiseP (l : List Int) (m : Nat) : List Int := if decide ((0 : Int) < l.length) then List.replicate m 0 ++ l else []
theorem zraise_spec (c : Cx) (l : List Int) (m : Nat) (hm : m + l.length ≤ 4096) : Spec c (theFn 13) [.li l, .int m] (.li (raiseP l m)) 1 := by
  refine spec_intro (n := 0) ["p", "many"] fun pm code doc L f A s₀ B hR => ?_
  refine run_return retQ_ok fun B => ev_if_li (tr_cmp (ev_gt (ev_len (ev_name rfl)) ev_int)) (fun h => ?_) fun h => ev_list (l := []) evl_nil (by unfold LenOk; simp)
  rw [show List.replicate m (0 : Int) = List.replicate (m : Int).toNat 0 from by rw [Int.toNat_natCast]]
  exact ev_cat (ev_rep0 (ev_list (l := [0]) (evl_cons ev_int evl_nil) (by unfold LenOk; simp)) (ev_name rfl) (by unfold LenOk; simp; omega) (by omega)) (ev_listcopy (ev_name rfl)) (by unfold LenOk; simp; omega)
end Mine
namespace Mine

theorem own_li {x : Str} {a : Addr} {l m : List Int} (h : l = m) : some (x, a, V.li l) = some (x, a, V.li m) := by rw [h]
theorem take_of_get {α : Type} {l : List α} {i : Nat} {x : α} (h : l[i]? = some x) : l.take (i + 1) = l.take i ++ [x] ∧ (l.take i).length = i := by
  have hlt : i < l.length := (List.getElem?_eq_some_iff.mp h).1
  exact ⟨by rw [List.take_add_one, h]; rfl, by rw [List.length_take]; omega⟩

/- zmul -/
def mulIn (left : Int) : List Int → Nat → List Int → List Int
  | [], _, f => f
  | r :: b, k, f => mulIn left b (k + 1) (f.set k (f.getD k 0 + left * r))
theorem mulIn_length (left : Int) : ∀ (b : List Int) (k : Nat) (f : List Int), (mulIn left b k f).length = f.length
  | [], _, _ => rfl
  | r :: b, k, f => by rw [mulIn, mulIn_length left b, List.length_set]
theorem mulIn_snoc (left r : Int) : ∀ (b : List Int) (k : Nat) (f : List Int), mulIn left (b ++ [r]) k f = (mulIn left b k f).set (k + b.length) ((mulIn left b k f).getD (k + b.length) 0 + left * r)
  | [], k, f => rfl
  | x :: b, k, f => by
    rw [List.cons_append, mulIn, mulIn_snoc left r b, mulIn]
    rw [show k + 1 + b.length = k + (x :: b).length by simp only [List.length_cons]; omega]
def mulOut (b : List Int) : List Int → Nat → List Int → List Int
  | [], _, f => f
  | x :: a, k, f => mulOut b a (k + 1) (if (x != 0) then mulIn x b k f else f)
theorem mulOut_length (b : List Int) : ∀ (a : List Int) (k : Nat) (f : List Int), (mulOut b a k f).length = f.length
  | [], _, _ => rfl
  | x :: a, k, f => by
    rw [mulOut, mulOut_length b a]
    split
    · rw [mulIn_length]
    · rfl
theorem mulOut_snoc (b : List Int) (x : Int) : ∀ (a : List Int) (k : Nat) (f : List Int), mulOut b (a ++ [x]) k f = if (x != 0) then mulIn x b (k + a.length) (mulOut b a k f) else mulOut b a k f
  | [], k, f => rfl
  | y :: a, k, f => by
    rw [List.cons_append, mulOut, mulOut_snoc b x a, mulOut]
    rw [show k + 1 + a.length = k + (y :: a).length by simp only [List.length_cons]; omega]
def mulP (a b : List Int) : List Int := if (decide (a.length = 0) || decide (b.length = 0)) then [] else mulOut b a 0 (List.replicate (a.length + b.length - 1) 0)

theorem zmul_spec (c : Cx) (a b : List Int) (ha : ∀ x ∈ a, Sm x) (hl : a.length + b.length ≤ 4096) : Spec c (theFn 14) [.li a, .li b] (.li (mulP a b)) 1 := by
  refine spec_intro (n := 0) ["a", "b"] fun pm code doc L f A s₀ B hR => ?_
  refine run_ifa (b := decide (a.length = 0) || decide (b.length = 0)) (fun B => ?_) (fun h => ?_) fun h => ?_
  · have e : ∀ n : Nat, decide (n = 0) = ((n : Int) == 0) := fun n => by
      rw [Bool.eq_iff_iff]; simp
    rw [e, e]
    exact tr_or2 (tr_cmp (ev_eq (ev_len (ev_name rfl)) ev_int)) fun _ => tr_cmp (ev_eq (ev_len (ev_name rfl)) ev_int)
  · unfold mulP
    rw [if_pos h]
    exact run_return retQ_ok fun B => ev_list (l := []) evl_nil (by unfold LenOk; simp)
  · obtain ⟨h1, h2⟩ := Bool.or_eq_false_iff.mp h
    have h1 := of_decide_eq_false h1
    have h2 := of_decide_eq_false h2
    unfold mulP
    rw [if_neg (by rw [h]; exact Bool.false_ne_true)]
    refine run_assign_own (fun B => evf_rep0 (ev_list (l := [0]) (evl_cons ev_int evl_nil) (by unfold LenOk; simp)) (ev_sub (ev_add (ev_len (ev_name rfl)) (ev_len (ev_name rfl))) ev_int) (by unfold LenOk; omega) (by omega)) fun ad => ?_
    rw [show ((a.length : Int) + (b.length : Int) - 1).toNat = a.length + b.length - 1 by omega]
    refine run_for_enum (fun i => ⟨[("a", .li a), ("b", .li b)], some ("found", ad, .li (mulOut b (a.take i) 0 (List.replicate (a.length + b.length - 1) 0)))⟩) hR.1 (fun B => ev_name rfl) (fun i x hx => ?_) ?_
    · obtain ⟨e1, e2⟩ := take_of_get hx
      have hi : i < a.length := (List.getElem?_eq_some_iff.mp hx).1
      have hs : Sm x := ha x (List.mem_of_getElem? hx)
      rw [e1, mulOut_snoc, e2, Nat.zero_add]
      have hlen := mulOut_length b (a.take i) 0 (List.replicate (a.length + b.length - 1) 0)
      rw [List.length_replicate] at hlen
      generalize mulOut b (a.take i) 0 (List.replicate (a.length + b.length - 1) 0) = fnd at hlen ⊢
      refine run_ifa (b := x != 0) (fun B => tr_cmp (ev_ne (ev_name rfl) ev_int)) (fun h => ?_) fun h => ?_
      · rw [if_pos h]
        refine run_for_enum (fun j => ⟨[("one", .int i), ("left", .int x), ("a", .li a), ("b", .li b)], some ("found", ad, .li (mulIn x (b.take j) i fnd))⟩) hR.1 (fun B => ev_name rfl) (fun j y hy => ?_) ?_
        · obtain ⟨e3, e4⟩ := take_of_get hy
          have hj : j < b.length := (List.getElem?_eq_some_iff.mp hy).1
          rw [e3, mulIn_snoc, e4]
          have hlen2 := mulIn_length x (b.take j) i fnd
          generalize mulIn x (b.take j) i fnd = g at hlen2 ⊢
          refine run_augadd (z := g.getD (i + j) 0) (fun B => ev_add (ev_name rfl) (ev_name rfl)) (fun B => ev_mul (ev_name rfl) (ev_name rfl) hs.mul_left) (by omega) ?_ ?_
          · rw [show ((i : Int) + (j : Int)).toNat = i + j by omega]
            exact getD_get (by omega)
          · exact run_end (ho := own_li (by rw [show ((i : Int) + (j : Int)).toNat = i + j by omega]))
        · rw [List.take_length]
          exact run_end
      · rw [if_neg (by rw [h]; exact Bool.false_ne_true)]
        exact run_end
    · rw [List.take_length]
      exact run_freeze rfl rep_of_li (run_return retQ_ok fun B => ev_name rfl)
end Mine
namespace Mine

def smB (x : Int) : Bool := decide (x.natAbs < 2 ^ 64)
theorem smB_sm {x : Int} (h : smB x = true) : Sm x := by
  have := of_decide_eq_true h
  exact this
def okMul (a b : List Int) : Bool := a.all smB && decide (a.length + b.length ≤ 4096)
theorem okMul_spec (c : Cx) {a b : List Int} (h : okMul a b = true) : Spec c (theFn 14) [.li a, .li b] (.li (mulP a b)) 1 := by
  obtain ⟨h1, h2⟩ := Bool.and_eq_true_iff.mp h
  exact zmul_spec c a b (fun x hx => smB_sm (List.all_eq_true.mp h1 x hx)) (of_decide_eq_true h2)
theorem some_of_if {α : Type} {b : Bool} {x : Option α} {r : α} (h : (if b then none else x) = some r) : b = false ∧ x = some r := by
  cases b with
  | true => cases h
  | false => exact ⟨rfl, h⟩
theorem some_of_if' {α : Type} {b : Bool} {x : Option α} {r : α} (h : (if b then x else none) = some r) : b = true ∧ x = some r := by
  cases b with
  | false => cases h
  | true => exact ⟨rfl, h⟩

/- zpower -/
def powF : Nat → List Int → List Int → Int → Option (List Int)
  | 0, _, _, _ => none
  | k + 1, found, factor, m =>
    if decide (0 < m) then
      (if (m.fmod 2 == 1) && !okMul found factor then none else
        if decide (1 < m) && !okMul factor factor then none else
        powF k (if (m.fmod 2 == 1) then mulP found factor else found) (if decide (1 < m) then mulP factor factor else factor) (m.fdiv 2))
    else some found
theorem zpower_spec (c : Cx) (p : List Int) (m : Int) (n : Nat) (r : List Int) (h : powF n [1] p m = some r) : Spec c (theFn 15) [.li p, .int m] (.li r) 2 := by
  refine spec_intro (n := 1) ["p", "many"] fun pm code doc L f A s₀ B hR => ?_
  refine run_swap2 hR.1 (fun B => evl_cons (ev_list (l := [1]) (evl_cons ev_int evl_nil) (by unfold LenOk; simp)) (evl_cons (ev_listcopy (ev_name rfl)) evl_nil)) ?_
  refine run_while (σ := List Int × List Int × Int) (fun x => ⟨[("found", .li x.1), ("factor", .li x.2.1), ("many", .int x.2.2)], none⟩) (fun n x => powF n x.1 x.2.1 x.2.2 = some r) (fun x => decide (0 < x.2.2)) ?_ ?_ ?_ n ([1], p, m) h
  · exact fun n x _ B => tr_cmp (ev_gt (ev_name rfl) ev_int)
  · rintro n ⟨fd, fc, k⟩ hx hc
    cases n with
    | zero => cases hx
    | succ n =>
      have hc : decide (0 < k) = true := hc
      have hx : powF (n + 1) fd fc k = some r := hx
      rw [powF, if_pos hc] at hx
      obtain ⟨o1, hx⟩ := some_of_if hx
      obtain ⟨o2, hx⟩ := some_of_if hx
      have e1 : ∀ h : (k.fmod 2 == 1) = true, okMul fd fc = true := fun h => by rw [h] at o1; simpa using o1
      have e2 : ∀ h : decide (1 < k) = true, okMul fc fc = true := fun h => by rw [h] at o2; simpa using o2
      refine run_ifa (b := k.fmod 2 == 1) (fun B => tr_cmp (ev_eq (ev_mod (ev_name rfl) ev_int (by decide)) ev_int)) (fun h => ?_) fun h => ?_
      · rw [if_pos h] at hx
        refine run_assign (fun B => ev_call (okMul_spec c (e1 h)) hR (evl_cons (ev_name rfl) (evl_cons (ev_name rfl) evl_nil))) ?_
        refine run_assign (fun B => ev_if_li (tr_cmp (ev_gt (ev_name rfl) ev_int)) (fun h => ev_call (okMul_spec c (e2 h)) hR (evl_cons (ev_name rfl) (evl_cons (ev_name rfl) evl_nil))) fun h => ev_name rfl) ?_
        refine run_assign (fun B => ev_fdiv (ev_name rfl) ev_int (by decide) (by unfold Sm; decide)) ?_
        exact run_loopend ⟨n, (_, _, _), Nat.lt_succ_self _, hx, rfl⟩
      · rw [if_neg (by rw [h]; exact Bool.false_ne_true)] at hx
        refine run_assign (fun B => ev_if_li (tr_cmp (ev_gt (ev_name rfl) ev_int)) (fun h => ev_call (okMul_spec c (e2 h)) hR (evl_cons (ev_name rfl) (evl_cons (ev_name rfl) evl_nil))) fun h => ev_name rfl) ?_
        refine run_assign (fun B => ev_fdiv (ev_name rfl) ev_int (by decide) (by unfold Sm; decide)) ?_
        exact run_loopend ⟨n, (_, _, _), Nat.lt_succ_self _, hx, rfl⟩
  · rintro n ⟨fd, fc, k⟩ hx hc
    cases n with
    | zero => cases hx
    | succ n =>
      have hc : decide (0 < k) = false := hc
      have hx : powF (n + 1) fd fc k = some r := hx
      rw [powF, if_neg (by rw [hc]; exact Bool.false_ne_true)] at hx
      cases hx
      exact run_return retQ_ok fun B => ev_name rfl

theorem zcontent_spec (c : Cx) (l : List Int) : Spec c (theFn 16) [.li l] (.int (gcdAll l)) 3 := by
  refine spec_intro (n := 2) ["p"] fun pm code doc L f A s₀ B hR => ?_
  exact run_return retQ_ok fun B => ev_call (gcd_all_spec c l) hR (evl_cons (ev_name rfl) evl_nil)

def divP (l : List Int) (k : Int) : List Int := l.map fun n => n.fdiv k
theorem zdivided_spec (c : Cx) (l : List Int) (k : Int) (h0 : k ≠ 0) (hk : Sm k) : Spec c (theFn 17) [.li l, .int k] (.li (divP l k)) 1 := by
  refine spec_intro (n := 0) ["p", "k"] fun pm code doc L f A s₀ B hR => ?_
  refine run_lenok "p" rfl fun hl => ?_
  exact run_return retQ_ok fun B => ev_compT _ [("k", .int k)] (it_li hR.1 (ev_name rfl)) ⟨⟨rfl, rfl, rfl, rfl⟩, trivial⟩ (fun n hn C => ev_fdiv (ev_name rfl) (ev_name rfl) h0 hk) hl

def primP (l : List Int) : List Int := if ((l.length : Int) == 0) then [] else divP l (if decide (0 < leadP l) then (gcdAll l : Int) else -(gcdAll l : Int))
def okPrim (l : List Int) : Bool := ((l.length : Int) == 0) || (decide (gcdAll l ≠ 0) && decide (gcdAll l < 2 ^ 64))
theorem zprimitive_spec (c : Cx) (l : List Int) (h : okPrim l = true) : Spec c (theFn 18) [.li l] (.li (primP l)) 4 := by
  refine spec_intro (n := 3) ["p"] fun pm code doc L f A s₀ B hR => ?_
  refine run_ifa (fun B => tr_cmp (ev_eq (ev_len (ev_name rfl)) ev_int)) (fun hz => ?_) fun hz => ?_
  · unfold primP
    rw [if_pos hz]
    exact run_return retQ_ok fun B => ev_list (l := []) evl_nil (by unfold LenOk; simp)
  · have h2 : (decide (gcdAll l ≠ 0) && decide (gcdAll l < 2 ^ 64)) = true := by
      unfold okPrim at h
      rw [hz] at h
      exact h
    obtain ⟨g0, g1⟩ := Bool.and_eq_true_iff.mp h2
    have g0 := of_decide_eq_true g0
    have g1 := of_decide_eq_true g1
    have hne : l ≠ [] := fun e => by subst e; cases hz
    unfold primP
    rw [if_neg (by rw [hz]; exact Bool.false_ne_true)]
    refine run_assign (fun B => ev_call (zcontent_spec c l) hR (evl_cons (ev_name rfl) evl_nil)) ?_
    refine run_return retQ_ok fun B => ev_call (zdivided_spec c l _ ?_ ?_) (hR.mono (by omega)) (evl_cons (ev_name rfl) (evl_cons (ev_if_int (tr_cmp (ev_gt (ev_last (ev_name rfl) (ev_neg ev_int) hne) ev_int)) (fun h => ev_name rfl) fun h => ev_neg (ev_name rfl)) evl_nil))
    · split <;> omega
    · unfold Sm
      split <;> omega

def deriveP (l : List Int) : List Int := (mapI (fun i y => y * (i : Int)) 0 l).drop 1
theorem zderive_spec (c : Cx) (l : List Int) : Spec c (theFn 19) [.li l] (.li (deriveP l)) 1 := by
  refine spec_intro (n := 0) ["p"] fun pm code doc L f A s₀ B hR => ?_
  refine run_lenok "p" rfl fun hl => ?_
  exact run_return retQ_ok fun B => ev_from (k := 1) (ev_comp_enum _ [] hR.1 (ev_name rfl) trivial (fun i y hy C => ev_mul (ev_name rfl) (ev_name rfl) (Sm.mul_right (by
    have := (List.getElem?_eq_some_iff.mp hy).1
    unfold LenOk at hl
    unfold Sm
    omega))) hl) ev_int (by omega)

def atP (l : List Int) (n : Int) : Int := l.foldr (fun x f => f * n + x) 0
theorem zat_spec (c : Cx) (l : List Int) (n : Int) (hn : Sm n) : Spec c (theFn 20) [.li l, .int n] (.int (atP l n)) 1 := by
  refine spec_intro (n := 0) ["p", "n"] fun pm code doc L f A s₀ B hR => ?_
  refine run_assign (fun B => ev_int) ?_
  refine run_for (fun i => ⟨[("found", .int ((l.reverse.take i).foldl (fun f x => f * n + x) 0)), ("n", .int n)], none⟩) (fun B => it_rev hR.1 (ev_name rfl)) ?_ ?_
  · intro i v hv
    rw [List.getElem?_map] at hv
    obtain ⟨x, hx, rfl⟩ := Option.map_eq_some_iff.mp hv
    refine run_assign (fun B => ev_add (ev_mul (ev_name rfl) (ev_name rfl) hn.mul_right) (ev_name rfl)) ?_
    refine run_end ⟨?_, rfl, trivial⟩
    rw [(take_of_get hx).1, List.foldl_append]
    rfl
  · rw [List.length_map, List.take_length, List.foldl_reverse]
    exact run_return retQ_ok fun B => ev_name rfl

theorem zreversed_spec (c : Cx) (l : List Int) : Spec c (theFn 21) [.li l] (.li (trimP l.reverse)) 2 := by
  refine spec_intro (n := 1) ["p"] fun pm code doc L f A s₀ B hR => ?_
  exact run_return retQ_ok fun B => ev_call (ztrim_spec c l.reverse) hR (evl_cons (ev_listrev hR.1 (ev_name rfl)) evl_nil)

theorem check_bottom_spec (c : Cx) (l : List Int) (h : l ≠ []) : Spec c (theFn 23) [.li l] .none 1 := by
  refine spec_intro (n := 0) ["p"] fun pm code doc L f A s₀ B hR => ?_
  refine run_ifa (fun B => tr_cmp (ev_eq (ev_len (ev_name rfl)) ev_int)) (fun hz => ?_) fun hz => ?_
  · exact absurd (by simpa using hz) h
  · exact run_nil fun G B' s I => ⟨I.same, rfl⟩
end Mine
namespace Mine

section
variable {c : Cx} {s₀ : Shared} {B₀ : List Addr} {A : Around} {env : Env} {d : D} {Q : Post} {rest : List Stmt} {pos p : Pos} {B : List Addr} {G : Addr → Option Obj} {s : Shared}
theorem run_expr {e : Expr} {v : V} (h : ∀ B, Ev c A env d B e v) (hr : Run c s₀ B₀ A env d rest Q) (hi : interactive env = false := by rfl) (hs : swapsWith e none pos.line env = pure false := by rfl) : Run c s₀ B₀ A env d (.Expr e pos :: rest) Q := by
  intro G B s E I
  exact wpAny_execs_cons (wpAny_Expr_any (h _ s _ _ I.pre fun v s₁ k₁ r₁ => hr G B s₁ E (I.keeps k₁)) hi hs)
theorem repl4 {h : Heap} {u v w z : V} {vals : List Value} (r : RepL h B [u, v, w, z] vals) : ∃ x y t o, vals = [x, y, t, o] ∧ Rep h B u x ∧ Rep h B v y ∧ Rep h B w t ∧ Rep h B z o := by
  cases vals with
  | nil => exact r.elim
  | cons x r1 =>
    obtain ⟨y, t, o, rfl, h1, h2, h3⟩ := repl3 r.2
    exact ⟨x, y, t, o, rfl, r.1, h1, h2, h3⟩
theorem Inv.assign4 {E : Value → Shared → Prop} {Q : Unit → Shared → Prop} {x1 x2 x3 x4 : Str} {p1 p2 p3 p4 pt : Pos} {k : Nat} {T : Addr} {v0 v1 v2 v3 : Value} {y0 y1 y2 y3 : V} (hh : A.handled = none) (I : Inv c s₀ B₀ G env B d s) (ht : s.heap.IsTuple T #[v0, v1, v2, v3]) (k1 : KindOk env x1) (k2 : KindOk env x2) (k3 : KindOk env x3) (k4 : KindOk env x4)
    (ho : d.own = none) (r0 : Rep s.heap (bx env d B) y0 v0) (r1 : Rep s.heap (bx env d B) y1 v1) (r2 : Rep s.heap (bx env d B) y2 v2) (r3 : Rep s.heap (bx env d B) y3 v3)
    (h : ∀ s', Inv c s₀ B₀ G env B ⟨(x4, y3) :: (x3, y2) :: (x2, y1) :: (x1, y0) :: d.ρ, d.own⟩ s' → Q () s') : wpAny (model c.prog c.w) A (assign (.Tuple [.Name x1 p1, .Name x2 p2, .Name x3 p3, .Name x4 p4] k pt) env (.ref T)) Q E s := by
  refine wpAny_assign_Tuple hh ht rfl rfl fun h₃ hx₃ => ?_
  have kk := extKp hx₃
  have no : ∀ x : Str, ∀ n a u, d.own = some (n, a, u) → n ≠ x := fun _ _ _ _ e => by rw [ho] at e; cases e
  show wpAny _ A (do holding [v1, v2, v3] (assign (.Name x1 p1) env v0); do holding [v2, v3] (assign (.Name x2 p2) env v1); do holding [v3] (assign (.Name x3 p3) env v2); do holding [] (assign (.Name x4 p4) env v3); pure ()) _ _ _
  refine wpAny_bind (wpAny_holding (wpAny_assign_Name ((I.keeps kk).store k1 (no _) (r0.off (Kp.off kk _)) fun s₁ _ off _ I₁ => ?_)))
  refine wpAny_bind (wpAny_holding (wpAny_assign_Name (I₁.store k2 (no _) ((r1.off (Kp.off kk _)).off off) fun s₂ _ off2 _ I₂ => ?_)))
  refine wpAny_bind (wpAny_holding (wpAny_assign_Name (I₂.store k3 (no _) (((r2.off (Kp.off kk _)).off off).off off2) fun s₃ _ off3 _ I₃ => ?_)))
  exact wpAny_bind (wpAny_holding (wpAny_assign_Name (I₃.store k4 (no _) ((((r3.off (Kp.off kk _)).off off).off off2).off off3) fun s₄ _ _ _ I₄ => wpAny_pure (h s₄ I₄))))
theorem run_swap4 {x1 x2 x3 x4 : Str} {p1 p2 p3 p4 pt pv : Pos} {k k' : Nat} {e1 e2 e3 e4 : Expr} {y1 y2 y3 y4 : V} (hh : A.handled = none) (h : ∀ B, EvL c A env d B [e1, e2, e3, e4] [y1, y2, y3, y4]) (hr : Run c s₀ B₀ A env ⟨(x4, y4) :: (x3, y3) :: (x2, y2) :: (x1, y1) :: d.ρ, d.own⟩ rest Q) (k1 : KindOk env x1 := by first | exact .inl rfl | exact .inr ⟨rfl, _, rfl⟩) (k2 : KindOk env x2 := by first | exact .inl rfl | exact .inr ⟨rfl, _, rfl⟩) (k3 : KindOk env x3 := by first | exact .inl rfl | exact .inr ⟨rfl, _, rfl⟩) (k4 : KindOk env x4 := by first | exact .inl rfl | exact .inr ⟨rfl, _, rfl⟩) (ho : d.own = none := by rfl)
    (hs : swapsWithSole [.Tuple [.Name x1 p1, .Name x2 p2, .Name x3 p3, .Name x4 p4] k pt] (.Tuple [e1, e2, e3, e4] k' pv) pos.line env = pure false := by rfl) (hw : swappedStores [.Tuple [.Name x1 p1, .Name x2 p2, .Name x3 p3, .Name x4 p4] k pt] (.Tuple [e1, e2, e3, e4] k' pv) env = pure none := by rfl) : Run c s₀ B₀ A env d (.Assign [.Tuple [.Name x1 p1, .Name x2 p2, .Name x3 p3, .Name x4 p4] k pt] (.Tuple [e1, e2, e3, e4] k' pv) pos :: rest) Q := by
  intro G B s E I
  refine wpAny_execs_cons (Assign_Tuple (Tuple_ (h _ s _ _ pv I.pre fun vals s₁ k₁ r₁ => ?_)) hs hw)
  obtain ⟨v1, v2, v3, v4, rfl, r1, r2, r3, r4⟩ := repl4 r₁
  refine tup_new (by simp) fun T s₂ k₂ ht => ?_
  exact ((I.keeps k₁).keeps k₂).assign4 hh ht k1 k2 k3 k4 ho (r1.off (Kp.off k₂ _)) (r2.off (Kp.off k₂ _)) (r3.off (Kp.off k₂ _)) (r4.off (Kp.off k₂ _)) fun s₃ I₃ => hr G B s₃ E I₃
end

def optV : Option (List Int) → V
  | none => .none
  | some l => .li l
/- zexact -/
def exactF (b : List Int) : Nat → List Int → List Int → Option (Option (List Int))
  | 0, _, _ => none
  | k + 1, rest, found =>
    if decide ((b.length : Int) ≤ rest.length) then
      if (leadP b == 0) || !smB (leadP b) then none else
      if ((leadP rest).fmod (leadP b) != 0) then some none else
        if !smB ((leadP rest).fdiv (leadP b)) || !decide (rest.length - b.length < found.length) || !decide (rest.length ≤ 4096) then none else
        exactF b k (subP rest (raiseP (scaleP b ((leadP rest).fdiv (leadP b))) (rest.length - b.length))) (found.set (rest.length - b.length) ((leadP rest).fdiv (leadP b)))
    else some (if ((rest.length : Int) == 0) then some (trimP found) else none)
theorem scaleP_length (l : List Int) (k : Int) : (scaleP l k).length ≤ l.length := by
  unfold scaleP
  split <;> simp
theorem zexact_spec (c : Cx) (a b : List Int) (n : Nat) (r : Option (List Int)) (hb : b ≠ []) (hr : exactF b n a (List.replicate (max 0 ((a.length : Int) - b.length + 1)).toNat 0) = some r) : Spec c (theFn 24) [.li a, .li b] (optV r) 4 := by
  refine spec_intro (n := 3) ["a", "b"] fun pm code doc L f A s₀ B hR => ?_
  refine run_expr (fun B => ev_call (check_bottom_spec c b hb) (hR.mono (by omega)) (evl_cons (ev_name rfl) evl_nil)) ?_
  refine run_lenok "a" rfl fun hla => ?_
  refine run_swap2_own2 hR.1 (fun B => ev_listcopy (ev_name rfl)) (fun B => evf_rep0 (ev_list (l := [0]) (evl_cons ev_int evl_nil) (by unfold LenOk; simp)) (ev_max hR.1 ev_int (ev_add (ev_sub (ev_len (ev_name rfl)) (ev_len (ev_name rfl))) ev_int)) (by unfold LenOk at *; have := List.length_pos_iff.mpr hb; omega) (by omega)) fun ad => ?_
  refine run_while (σ := List Int × List Int) (fun x => ⟨[("rest", .li x.1), ("a", .li a), ("b", .li b)], some ("found", ad, .li x.2)⟩) (fun n x => exactF b n x.1 x.2 = some r) (fun x => decide ((b.length : Int) ≤ x.1.length)) ?_ ?_ ?_ n (a, _) hr
  · exact fun n x _ B => tr_cmp (ev_ge (ev_len (ev_name rfl)) (ev_len (ev_name rfl)))
  · rintro n ⟨rst, fnd⟩ hx hc
    cases n with
    | zero => cases hx
    | succ n =>
      have hc : decide ((b.length : Int) ≤ rst.length) = true := hc
      have hx : exactF b (n + 1) rst fnd = some r := hx
      rw [exactF, if_pos hc] at hx
      obtain ⟨o1, hx⟩ := some_of_if hx
      obtain ⟨o1, o2⟩ := Bool.or_eq_false_iff.mp o1
      have b0 : leadP b ≠ 0 := by simpa using o1
      have bS : Sm (leadP b) := smB_sm (by simpa using o2)
      have hle := of_decide_eq_true hc
      have hbl := List.length_pos_iff.mpr hb
      have hrn : rst ≠ [] := fun e => by have h2 := congrArg List.length e; simp only [List.length_nil] at h2; omega
      refine run_ifa (b := ((leadP rst).fmod (leadP b) != 0)) (fun B => tr_cmp (ev_ne (ev_mod (ev_last (ev_name rfl) (ev_neg ev_int) hrn) (ev_last (ev_name rfl) (ev_neg ev_int) hb) b0) ev_int)) (fun h => ?_) fun h => ?_
      · rw [if_pos h] at hx
        cases hx
        exact run_return (loopQ_ok retQ_ok) fun B => ev_none
      · rw [if_neg (by rw [h]; exact Bool.false_ne_true)] at hx
        obtain ⟨o3, hx⟩ := some_of_if hx
        obtain ⟨o3, o5⟩ := Bool.or_eq_false_iff.mp o3
        obtain ⟨o3, o4⟩ := Bool.or_eq_false_iff.mp o3
        have nS : Sm ((leadP rst).fdiv (leadP b)) := smB_sm (by simpa using o3)
        have pl : rst.length - b.length < fnd.length := by simpa using o4
        have rl : rst.length ≤ 4096 := by simpa using o5
        refine run_swap2 (y2 := .int ((rst.length - b.length : Nat) : Int)) hR.1 (fun B => evl_cons (ev_fdiv (ev_last (ev_name rfl) (ev_neg ev_int) hrn) (ev_last (ev_name rfl) (ev_neg ev_int) hb) b0 bS) (evl_cons (by
          rw [show ((rst.length - b.length : Nat) : Int) = (rst.length : Int) - b.length by omega]
          exact ev_sub (ev_len (ev_name rfl)) (ev_len (ev_name rfl))) evl_nil)) ?_
        refine run_setitem (fun B => ev_name rfl) (fun B => ev_name rfl) (by omega) (by show ((rst.length - b.length : Nat) : Int) < ((fnd.length : Nat) : Int); omega) ?_
        rw [Int.toNat_natCast]
        have sl := scaleP_length b ((leadP rst).fdiv (leadP b))
        refine run_assign (fun B => ev_call (zsub_spec c _ _) hR (evl_cons (ev_name rfl) (evl_cons (ev_call (zraise_spec c _ _ (by omega)) (hR.mono (by omega)) (evl_cons (ev_call (zscale_spec c _ _ nS) (hR.mono (by omega)) (evl_cons (ev_name rfl) (evl_cons (ev_name rfl) evl_nil))) (evl_cons (ev_name rfl) evl_nil))) evl_nil))) ?_
        exact run_loopend (d' := ⟨[("rest", _), ("a", .li a), ("b", .li b)], _⟩) ⟨n, (_, _), Nat.lt_succ_self _, hx, rfl⟩
  · rintro n ⟨rst, fnd⟩ hx hc
    cases n with
    | zero => cases hx
    | succ n =>
      have hc : decide ((b.length : Int) ≤ rst.length) = false := hc
      have hx : exactF b (n + 1) rst fnd = some r := hx
      rw [exactF, if_neg (by rw [hc]; exact Bool.false_ne_true)] at hx
      cases hx
      refine run_freeze rfl rep_of_li (run_return retQ_ok fun B => ?_)
      refine ev_if (b := ((rst.length : Int) == 0)) (tr_cmp (ev_eq (ev_len (ev_name rfl)) ev_int)) (fun h => ?_) fun h => ?_
      · rw [if_pos h]
        exact ev_call (ztrim_spec c fnd) (hR.mono (by omega)) (evl_cons (ev_name rfl) evl_nil)
      · rw [if_neg (by rw [h]; exact Bool.false_ne_true)]
        exact ev_none

/- pseudo -/
def pseudoF (b : List Int) (first : Int) : Nat → List Int → List Int → Int → Option (List Int × List Int × Int)
  | 0, _, _, _ => none
  | k + 1, rest, found, left =>
    if decide ((b.length : Int) ≤ rest.length) then
      if !smB first || !smB (leadP rest) || !decide (rest.length + 1 ≤ 4096) then none else
        pseudoF b first k (subP (scaleP rest first) (raiseP (scaleP b (leadP rest)) (rest.length - b.length))) (subP (scaleP found first) (raiseP [-(leadP rest)] (rest.length - b.length))) (left - 1)
    else some (rest, found, left)
def okPow (a b : Int) : Bool := smB a && decide (0 ≤ b) && decide (b ≤ 2 ^ 20)
theorem okPow_ok {a b : Int} (h : okPow a b = true) : 0 ≤ b ∧ (Builtin.Int.intBits a : Int) * b ≤ 2 ^ 27 := by
  obtain ⟨h, h3⟩ := Bool.and_eq_true_iff.mp h
  obtain ⟨h1, h2⟩ := Bool.and_eq_true_iff.mp h
  have h1 : a.natAbs < 2 ^ 64 := smB_sm h1
  have h2 := of_decide_eq_true h2
  have h3 := of_decide_eq_true h3
  have hb : Builtin.Int.intBits a ≤ 64 := intBits_le_64 (by omega) (by omega)
  refine ⟨h2, ?_⟩
  calc (Builtin.Int.intBits a : Int) * b ≤ 64 * b := Int.mul_le_mul_of_nonneg_right (by omega) h2
    _ ≤ 2 ^ 27 := by omega
def pseudoP (a b : List Int) : Option (List Int × List Int × Int) :=
  if ((b.length : Int) == 0) then none else
  match pseudoF b (leadP b) (a.length + 1) a [] (max 0 ((a.length : Int) - b.length + 1)) with
  | none => none
  | some (rest, found, left) =>
    if okPow (leadP b) left && smB (leadP b ^ left.toNat) then some (scaleP found (leadP b ^ left.toNat), scaleP rest (leadP b ^ left.toNat), max 0 ((a.length : Int) - b.length + 1)) else none
theorem pseudo_spec (c : Cx) (a b x y : List Int) (m : Int) (h : pseudoP a b = some (x, y, m)) : Spec c (theFn 25) [.li a, .li b] (.tri x y m) 4 := by
  unfold pseudoP at h
  obtain ⟨hb, h⟩ := some_of_if h
  have hb : b ≠ [] := fun e => by subst e; cases hb
  have hbl := List.length_pos_iff.mpr hb
  cases hF : pseudoF b (leadP b) (a.length + 1) a [] (max 0 ((a.length : Int) - b.length + 1)) with
  | none => rw [hF] at h; cases h
  | some t =>
  obtain ⟨rest, found, left⟩ := t
  rw [hF] at h
  obtain ⟨h1, h⟩ := some_of_if' h
  obtain ⟨h1, h2⟩ := Bool.and_eq_true_iff.mp h1
  obtain ⟨p1, p2⟩ := okPow_ok h1
  have mS := smB_sm h2
  cases h
  refine spec_intro (n := 3) ["a", "b"] fun pm code doc L f A s₀ B hR => ?_
  refine run_expr (fun B => ev_call (check_bottom_spec c b hb) (hR.mono (by omega)) (evl_cons (ev_name rfl) evl_nil)) ?_
  refine run_lenok "a" rfl fun hla => ?_
  refine run_assign (fun B => ev_max hR.1 ev_int (ev_add (ev_sub (ev_len (ev_name rfl)) (ev_len (ev_name rfl))) ev_int)) ?_
  refine run_swap4 hR.1 (fun B => evl_cons (ev_listcopy (ev_name rfl)) (evl_cons (ev_list (l := []) evl_nil (by unfold LenOk; simp)) (evl_cons (ev_name rfl) (evl_cons (ev_call (zlead_spec c b) (hR.mono (by omega)) (evl_cons (ev_name rfl) evl_nil)) evl_nil)))) ?_
  refine run_while (σ := List Int × List Int × Int) (fun x => ⟨[("rest", .li x.1), ("found", .li x.2.1), ("left", .int x.2.2), ("first", .int (leadP b)), ("many", .int (max 0 ((a.length : Int) - b.length + 1))), ("a", .li a), ("b", .li b)], none⟩) (fun n x => pseudoF b (leadP b) n x.1 x.2.1 x.2.2 = some (rest, found, left)) (fun x => decide ((b.length : Int) ≤ x.1.length)) ?_ ?_ ?_ _ (a, [], _) hF
  · exact fun n x _ B => tr_cmp (ev_ge (ev_len (ev_name rfl)) (ev_len (ev_name rfl)))
  · rintro n ⟨rst, fnd, lft⟩ hx hc
    cases n with
    | zero => cases hx
    | succ n =>
      have hc : decide ((b.length : Int) ≤ rst.length) = true := hc
      have hx : pseudoF b (leadP b) (n + 1) rst fnd lft = some (rest, found, left) := hx
      rw [pseudoF, if_pos hc] at hx
      obtain ⟨o1, hx⟩ := some_of_if hx
      obtain ⟨o1, o3⟩ := Bool.or_eq_false_iff.mp o1
      obtain ⟨o1, o2⟩ := Bool.or_eq_false_iff.mp o1
      have fS : Sm (leadP b) := smB_sm (by simpa using o1)
      have nS : Sm (leadP rst) := smB_sm (by simpa using o2)
      have rl : rst.length + 1 ≤ 4096 := by simpa using o3
      have hle := of_decide_eq_true hc
      have hrn : rst ≠ [] := fun e => by have h2 := congrArg List.length e; simp only [List.length_nil] at h2; omega
      refine run_swap2 (y2 := .int ((rst.length - b.length : Nat) : Int)) hR.1 (fun B => evl_cons (ev_last (ev_name rfl) (ev_neg ev_int) hrn) (evl_cons (by
          rw [show ((rst.length - b.length : Nat) : Int) = (rst.length : Int) - b.length by omega]
          exact ev_sub (ev_len (ev_name rfl)) (ev_len (ev_name rfl))) evl_nil)) ?_
      have sl := scaleP_length b (leadP rst)
      refine run_assign (fun B => ev_call (zsub_spec c _ _) hR (evl_cons (ev_call (zscale_spec c _ _ fS) (hR.mono (by omega)) (evl_cons (ev_name rfl) (evl_cons (ev_name rfl) evl_nil))) (evl_cons (ev_call (zraise_spec c [-(leadP rst)] _ (by simp only [List.length_cons, List.length_nil]; omega)) (hR.mono (by omega)) (evl_cons (ev_list (l := [-(leadP rst)]) (evl_cons (ev_neg (ev_name rfl)) evl_nil) (by unfold LenOk; simp)) (evl_cons (ev_name rfl) evl_nil))) evl_nil))) ?_
      refine run_assign (fun B => ev_call (zsub_spec c _ _) hR (evl_cons (ev_call (zscale_spec c _ _ fS) (hR.mono (by omega)) (evl_cons (ev_name rfl) (evl_cons (ev_name rfl) evl_nil))) (evl_cons (ev_call (zraise_spec c _ _ (by omega)) (hR.mono (by omega)) (evl_cons (ev_call (zscale_spec c _ _ nS) (hR.mono (by omega)) (evl_cons (ev_name rfl) (evl_cons (ev_name rfl) evl_nil))) (evl_cons (ev_name rfl) evl_nil))) evl_nil))) ?_
      refine run_isub (fun B => ev_int) ?_
      exact run_loopend ⟨n, (_, _, _), Nat.lt_succ_self _, hx, rfl⟩
  · rintro n ⟨rst, fnd, lft⟩ hx hc
    cases n with
    | zero => cases hx
    | succ n =>
      have hc : decide ((b.length : Int) ≤ rst.length) = false := hc
      have hx : pseudoF b (leadP b) (n + 1) rst fnd lft = some (rest, found, left) := hx
      rw [pseudoF, if_neg (by rw [hc]; exact Bool.false_ne_true)] at hx
      cases hx
      refine run_assign (fun B => ev_pow (ev_name rfl) (ev_name rfl) p1 p2) ?_
      refine run_return retQ_ok fun B => ev_tri (evl_cons (ev_call (zscale_spec c _ _ mS) (hR.mono (by omega)) (evl_cons (ev_name rfl) (evl_cons (ev_name rfl) evl_nil))) (evl_cons (ev_call (zscale_spec c _ _ mS) (hR.mono (by omega)) (evl_cons (ev_name rfl) (evl_cons (ev_name rfl) evl_nil))) (evl_cons (ev_name rfl) evl_nil)))

theorem zpseudo_rest_spec (c : Cx) (a b x y : List Int) (m : Int) (h : pseudoP a b = some (x, y, m)) : Spec c (theFn 26) [.li a, .li b] (.li y) 5 := by
  refine spec_intro (n := 4) ["a", "b"] fun pm code doc L f A s₀ B hR => ?_
  exact run_return retQ_ok fun B => ev_tri1 (ev_call (pseudo_spec c a b x y m h) hR (evl_cons (ev_name rfl) (evl_cons (ev_name rfl) evl_nil))) ev_int
end Mine
namespace Mine

def nextH (front step height : Int) : Int := if (step == 0) then height else (front ^ step.toNat).fdiv (height ^ (step - 1).toNat)
def okNext (front step height : Int) : Bool := (step == 0) || (okPow front step && okPow height (step - 1) && smB (height ^ (step - 1).toNat) && (height ^ (step - 1).toNat != 0))
theorem next_height_spec (c : Cx) (front step height : Int) (h : okNext front step height = true) : Spec c (theFn 28) [.int front, .int step, .int height] (.int (nextH front step height)) 1 := by
  refine spec_intro (n := 0) ["front", "step", "height"] fun pm code doc L f A s₀ B hR => ?_
  refine run_ifa (fun B => tr_cmp (ev_eq (ev_name rfl) ev_int)) (fun hz => ?_) fun hz => ?_
  · unfold nextH
    rw [if_pos hz]
    exact run_return retQ_ok fun B => ev_name rfl
  · unfold nextH
    rw [if_neg (by rw [hz]; exact Bool.false_ne_true)]
    unfold okNext at h
    rw [hz, Bool.false_or] at h
    obtain ⟨h, h4⟩ := Bool.and_eq_true_iff.mp h
    obtain ⟨h, h3⟩ := Bool.and_eq_true_iff.mp h
    obtain ⟨h1, h2⟩ := Bool.and_eq_true_iff.mp h
    obtain ⟨p1, p2⟩ := okPow_ok h1
    obtain ⟨q1, q2⟩ := okPow_ok h2
    exact run_return retQ_ok fun B => ev_fdiv (ev_pow (ev_name rfl) (ev_name rfl) p1 p2) (ev_pow (ev_name rfl) (ev_sub (ev_name rfl) ev_int) q1 q2) (by simpa using h4) (smB_sm h3)

/- subresultants -/
def okSub (a b : List Int) (row : List (List Int)) (front height : Int) : Bool :=
  okPow height ((a.length : Int) - b.length) && smB front && (front * height ^ ((a.length : Int) - b.length).toNat != 0) && smB (front * height ^ ((a.length : Int) - b.length).toNat) && decide (row.length + 1 ≤ 4096) && okNext (leadP b) ((a.length : Int) - b.length) height
def subF : Nat → List Int → List Int → List (List Int) → Int → Int → Option (List (List Int))
  | 0, _, _, _, _, _ => none
  | k + 1, a, b, row, front, height =>
    if decide ((1 : Int) < b.length) then
      match pseudoP a b with
      | none => none
      | some t =>
        if ((t.2.1.length : Int) == 0) then some row else
        if okSub a b row front height then
          subF k b (divP t.2.1 (front * height ^ ((a.length : Int) - b.length).toNat)) (row ++ [divP t.2.1 (front * height ^ ((a.length : Int) - b.length).toNat)]) (leadP b) (nextH (leadP b) ((a.length : Int) - b.length) height)
        else none
    else some row
def subresP (a b : List Int) : Option (List (List Int)) := if decide ((a.length : Int) < b.length) then subF 60 b a [b, a] 1 1 else subF 60 a b [a, b] 1 1

theorem sub_core (c : Cx) (pm code doc : Value) (L f : Addr) (A : Around) (s₀ : Shared) (B₀ : List Addr) (hR : Room A 5) (a b : List Int) (r : List (List Int)) (n : Nat) (h : subF n a b [a, b] 1 1 = some r) :
    Run c s₀ B₀ A (fenv (theFn 29) pm code doc L f) ⟨[("a", .li a), ("b", .li b)], none⟩ ((bodyOf (theFn 29)).drop 1) (RetQ s₀ B₀ (.ll r)) := by
  refine run_swap3_own1 (y1 := .ll [a, b]) hR.1 (fun B => evf_listll (ls := [a, b]) (evl_cons (ev_listcopy (ev_name rfl)) (evl_cons (ev_listcopy (ev_name rfl)) evl_nil)) (by unfold LenOk; simp)) (fun B => evl_cons ev_int (evl_cons ev_int evl_nil)) fun ad => ?_
  refine run_while (σ := List Int × List Int × List (List Int) × Int × Int) (fun x => ⟨[("a", .li x.1), ("b", .li x.2.1), ("front", .int x.2.2.2.1), ("height", .int x.2.2.2.2)], some ("row", ad, .ll x.2.2.1)⟩) (fun n x => subF n x.1 x.2.1 x.2.2.1 x.2.2.2.1 x.2.2.2.2 = some r) (fun x => decide ((1 : Int) < x.2.1.length)) ?_ ?_ ?_ n (a, b, [a, b], 1, 1) h
  · exact fun n x _ B => tr_cmp (ev_gt (ev_len (ev_name rfl)) ev_int)
  · rintro n ⟨x, y, row, front, height⟩ hx hc
    cases n with
    | zero => cases hx
    | succ n =>
      have hc : decide ((1 : Int) < y.length) = true := hc
      have hx : subF (n + 1) x y row front height = some r := hx
      rw [subF, if_pos hc] at hx
      cases hp : pseudoP x y with
      | none => rw [hp] at hx; cases hx
      | some t =>
        obtain ⟨t1, t2, t3⟩ := t
        rw [hp] at hx
        refine run_assign (fun B => ev_sub (ev_len (ev_name rfl)) (ev_len (ev_name rfl))) ?_
        refine run_assign (fun B => ev_call (zpseudo_rest_spec c x y t1 t2 t3 hp) hR (evl_cons (ev_name rfl) (evl_cons (ev_name rfl) evl_nil))) ?_
        refine run_ifa (fun B => tr_cmp (ev_eq (ev_len (ev_name rfl)) ev_int)) (fun hz => ?_) fun hz => ?_
        · have hx : (if ((t2.length : Int) == 0) then some row else _) = some r := hx
          rw [if_pos hz] at hx
          cases hx
          exact run_freeze rfl rep_of_ll (run_return (loopQ_ok retQ_ok) fun B => ev_name rfl)
        · have hx : (if ((t2.length : Int) == 0) then some row else _) = some r := hx
          rw [if_neg (by rw [hz]; exact Bool.false_ne_true)] at hx
          obtain ⟨o, hx⟩ := some_of_if' hx
          unfold okSub at o
          obtain ⟨o, o6⟩ := Bool.and_eq_true_iff.mp o
          obtain ⟨o, o5⟩ := Bool.and_eq_true_iff.mp o
          obtain ⟨o, o4⟩ := Bool.and_eq_true_iff.mp o
          obtain ⟨o, o3⟩ := Bool.and_eq_true_iff.mp o
          obtain ⟨o1, o2⟩ := Bool.and_eq_true_iff.mp o
          obtain ⟨p1, p2⟩ := okPow_ok o1
          refine run_swap2 (y2 := .li (divP t2 (front * height ^ ((x.length : Int) - y.length).toNat))) hR.1 (fun B => evl_cons (ev_name rfl) (evl_cons (ev_call (zdivided_spec c t2 _ (by simpa using o3) (smB_sm o4)) (hR.mono (by omega)) (evl_cons (ev_name rfl) (evl_cons (ev_mul (ev_name rfl) (ev_pow (ev_name rfl) (ev_name rfl) p1 p2) (smB_sm o2).mul_left) evl_nil))) evl_nil)) ?_
          refine run_append (fun B => ev_name rfl) (by have := of_decide_eq_true o5; unfold LenOk; simpa using this) ?_
          refine run_assign (fun B => ev_call (zlead_spec c y) (hR.mono (by omega)) (evl_cons (ev_name rfl) evl_nil)) ?_
          refine run_assign (fun B => ev_call (next_height_spec c _ _ _ o6) (hR.mono (by omega)) (evl_cons (ev_name rfl) (evl_cons (ev_name rfl) (evl_cons (ev_name rfl) evl_nil)))) ?_
          exact run_loopend (d' := ⟨[("a", .li y), ("b", _), ("front", _), ("height", _)], _⟩) ⟨n, (_, _, _, _, _), Nat.lt_succ_self _, hx, rfl⟩
  · rintro n ⟨x, y, row, front, height⟩ hx hc
    cases n with
    | zero => cases hx
    | succ n =>
      have hc : decide ((1 : Int) < y.length) = false := hc
      have hx : subF (n + 1) x y row front height = some r := hx
      rw [subF, if_neg (by rw [hc]; exact Bool.false_ne_true)] at hx
      cases hx
      exact run_freeze rfl rep_of_ll (run_return retQ_ok fun B => ev_name rfl)
theorem subresultants_spec (c : Cx) (a b : List Int) (r : List (List Int)) (h : subresP a b = some r) : Spec c (theFn 29) [.li a, .li b] (.ll r) 6 := by
  refine spec_intro (n := 5) ["a", "b"] fun pm code doc L f A s₀ B hR => ?_
  unfold subresP at h
  refine run_ifa (fun B => tr_cmp (ev_lt (ev_len (ev_name rfl)) (ev_len (ev_name rfl)))) (fun hz => ?_) fun hz => ?_
  · rw [if_pos hz] at h
    refine run_swap2 hR.1 (fun B => evl_cons (ev_name rfl) (evl_cons (ev_name rfl) evl_nil)) ?_
    exact run_weak (sub_core c pm code doc L f A s₀ B hR b a r _ h)
  · rw [if_neg (by rw [hz]; exact Bool.false_ne_true)] at h
    exact run_weak (sub_core c pm code doc L f A s₀ B hR a b r _ h)

/- zgcd -/
def zgcdP (a b : List Int) : Option (List Int) :=
  if ((a.length : Int) == 0) || ((b.length : Int) == 0) then none else
  if !(okPrim a && okPrim b) then none else
  match subresP (primP a) (primP b) with
  | none => none
  | some row =>
    match row[((-1 : Int) + row.length).toNat]? with
    | none => none
    | some last =>
      if decide ((1 : Int) < last.length) then (if okPrim last && smB (Int.gcd (gcdAll a) (gcdAll b)) then some (scaleP (primP last) (Int.gcd (gcdAll a) (gcdAll b))) else none) else some [(Int.gcd (gcdAll a) (gcdAll b) : Int)]
theorem zgcd_spec (c : Cx) (a b r : List Int) (h : zgcdP a b = some r) : Spec c (theFn 30) [.li a, .li b] (.li r) 7 := by
  unfold zgcdP at h
  obtain ⟨h0, h⟩ := some_of_if h
  obtain ⟨h1, h⟩ := some_of_if h
  obtain ⟨pa, pb⟩ := Bool.and_eq_true_iff.mp (by simpa using h1 : (okPrim a && okPrim b) = true)
  cases hs : subresP (primP a) (primP b) with
  | none => rw [hs] at h; cases h
  | some row =>
  rw [hs] at h
  have h : (match row[((-1 : Int) + row.length).toNat]? with | none => none | some last => _) = some r := h
  cases hl : row[((-1 : Int) + row.length).toNat]? with
  | none => rw [hl] at h; cases h
  | some last =>
  rw [hl] at h
  have hrow : (((-1 : Int) + row.length).toNat) < row.length := (List.getElem?_eq_some_iff.mp hl).1
  refine spec_intro (n := 6) ["a", "b"] fun pm code doc L f A s₀ B hR => ?_
  refine run_ifa (fun B => tr_or2 (tr_cmp (ev_eq (ev_len (ev_name rfl)) ev_int)) fun _ => tr_cmp (ev_eq (ev_len (ev_name rfl)) ev_int)) (fun hz => ?_) fun hz => ?_
  · rw [h0] at hz; cases hz
  · refine run_assign (fun B => ev_call (gcd_spec c _ _) (hR.mono (by omega)) (evl_cons (ev_call (zcontent_spec c a) (hR.mono (by omega)) (evl_cons (ev_name rfl) evl_nil)) (evl_cons (ev_call (zcontent_spec c b) (hR.mono (by omega)) (evl_cons (ev_name rfl) evl_nil)) evl_nil))) ?_
    refine run_assign (fun B => ev_itemllneg (ev_call (subresultants_spec c _ _ row hs) hR (evl_cons (ev_call (zprimitive_spec c a pa) (hR.mono (by omega)) (evl_cons (ev_name rfl) evl_nil)) (evl_cons (ev_call (zprimitive_spec c b pb) (hR.mono (by omega)) (evl_cons (ev_name rfl) evl_nil)) evl_nil))) (ev_neg ev_int) (by omega) (by omega) hl) ?_
    refine run_return retQ_ok fun B => ev_if (b := decide ((1 : Int) < last.length)) (tr_cmp (ev_gt (ev_len (ev_name rfl)) ev_int)) (fun hz => ?_) fun hz => ?_
    · have h : (if decide ((1 : Int) < last.length) then _ else _) = some r := h
      rw [if_pos hz] at h
      obtain ⟨o, h⟩ := some_of_if' h
      obtain ⟨o1, o2⟩ := Bool.and_eq_true_iff.mp o
      cases h
      exact ev_call (zscale_spec c _ _ (smB_sm o2)) (hR.mono (by omega)) (evl_cons (ev_call (zprimitive_spec c last o1) (hR.mono (by omega)) (evl_cons (ev_name rfl) evl_nil)) (evl_cons (ev_name rfl) evl_nil))
    · have h : (if decide ((1 : Int) < last.length) then _ else _) = some r := h
      rw [if_neg (by rw [hz]; exact Bool.false_ne_true)] at h
      cases h
      exact ev_list (l := [_]) (evl_cons (ev_name rfl) evl_nil) (by unfold LenOk; simp)

/- signs -/
def signI (n : Int) : Int := (if decide (0 < n) then 1 else 0) - (if decide (n < 0) then 1 else 0)
theorem sign_of_spec (c : Cx) (n : Int) : Spec c (theFn 32) [.int n] (.int (signI n)) 1 := by
  refine spec_intro (n := 0) ["number"] fun pm code doc L f A s₀ B hR => ?_
  exact run_return retQ_ok fun B => ev_sub_bool (ev_gt (ev_name rfl) ev_int) (ev_lt (ev_name rfl) ev_int)
def valP (p : List Int) (top bottom : Int) : Int := signI (p.reverse.foldl (fun s x => (s.1 * top + x * s.2, s.2 * bottom)) ((0 : Int), (1 : Int))).1
theorem value_sign_spec (c : Cx) (p : List Int) (top bottom : Int) (hp : ∀ x ∈ p, Sm x) (ht : Sm top) (hb : Sm bottom) : Spec c (theFn 33) [.li p, .ti [top, bottom]] (.int (valP p top bottom)) 2 := by
  refine spec_intro (n := 1) ["p", "x"] fun pm code doc L f A s₀ B hR => ?_
  refine run_unpack2 hR.1 (fun B => ev_name rfl) ?_
  refine run_unpack2 (a := 0) (b := 1) hR.1 (fun B => ev_tuple (l := [0, 1]) (evl_cons ev_int (evl_cons ev_int evl_nil)) (by unfold LenOk; simp)) ?_
  refine run_for (fun i => ⟨[("found", .int ((p.reverse.take i).foldl (fun s x => (s.1 * top + x * s.2, s.2 * bottom)) ((0 : Int), (1 : Int))).1), ("scale", .int ((p.reverse.take i).foldl (fun s x => (s.1 * top + x * s.2, s.2 * bottom)) ((0 : Int), (1 : Int))).2), ("bottom", .int bottom), ("top", .int top)], none⟩) (fun B => it_rev hR.1 (ev_name rfl)) ?_ ?_
  · intro i v hv
    rw [List.getElem?_map] at hv
    obtain ⟨x, hx, rfl⟩ := Option.map_eq_some_iff.mp hv
    have hs : Sm x := hp x (List.mem_reverse.mp (List.mem_of_getElem? hx))
    rw [(take_of_get hx).1, List.foldl_append]
    generalize (p.reverse.take i).foldl (fun s x => (s.1 * top + x * s.2, s.2 * bottom)) ((0 : Int), (1 : Int)) = z
    refine run_assign (fun B => ev_add (ev_mul (ev_name rfl) (ev_name rfl) ht.mul_right) (ev_mul (ev_name rfl) (ev_name rfl) hs.mul_left)) ?_
    refine run_assign (fun B => ev_mul (ev_name rfl) (ev_name rfl) hb.mul_right) ?_
    exact run_end
  · rw [List.length_map, List.take_length]
    exact run_return retQ_ok fun B => ev_call (sign_of_spec c _) hR (evl_cons (ev_name rfl) evl_nil)
theorem sign_at_spec (c : Cx) (p : List Int) (top bottom : Int) (hp : ∀ x ∈ p, Sm x) (ht : Sm top) (hb : Sm bottom) : Spec c (theFn 35) [.li p, .ti [top, bottom]] (.int (valP p top bottom)) 3 := by
  refine spec_intro (n := 2) ["p", "x"] fun pm code doc L f A s₀ B hR => ?_
  exact run_return retQ_ok fun B => ev_if (b := false) (tr_bool (ev_isstr (ev_name rfl))) (fun h => nomatch h) fun _ => ev_call (value_sign_spec c p top bottom hp ht hb) hR (evl_cons (ev_name rfl) (evl_cons (ev_name rfl) evl_nil))

/- simple_part, lessened, next_of_row, sturm_row -/
def simpleP (f : List Int) : Option (List Int) :=
  match zgcdP f (deriveP f) with
  | none => none
  | some g =>
    if decide ((0 : Int) < (g.length : Int) - 1) then
      (match exactF g 60 f (List.replicate (max 0 ((f.length : Int) - g.length + 1)).toNat 0) with
      | some (some r) => some r
      | _ => none)
    else some f
theorem simple_part_spec (c : Cx) (f r : List Int) (h : simpleP f = some r) : Spec c (theFn 36) [.li f] (.li r) 8 := by
  unfold simpleP at h
  cases hg : zgcdP f (deriveP f) with
  | none => rw [hg] at h; cases h
  | some g =>
  rw [hg] at h
  refine spec_intro (n := 7) ["f"] fun pm code doc L a A s₀ B hR => ?_
  refine run_assign (fun B => ev_call (zgcd_spec c f _ g hg) hR (evl_cons (ev_name rfl) (evl_cons (ev_call (zderive_spec c f) (hR.mono (by omega)) (evl_cons (ev_name rfl) evl_nil)) evl_nil))) ?_
  refine run_return retQ_ok fun B => ev_if (b := decide ((0 : Int) < (g.length : Int) - 1)) (tr_cmp (ev_gt (ev_call (zdegree_spec c g) (hR.mono (by omega)) (evl_cons (ev_name rfl) evl_nil)) ev_int)) (fun hz => ?_) fun hz => ?_
  · have h : (if decide ((0 : Int) < (g.length : Int) - 1) then _ else _) = some r := h
    rw [if_pos hz] at h
    have hgn : g ≠ [] := fun e => by have h2 := congrArg List.length e; have := of_decide_eq_true hz; simp only [List.length_nil] at h2; omega
    cases he : exactF g 60 f (List.replicate (max 0 ((f.length : Int) - g.length + 1)).toNat 0) with
    | none => rw [he] at h; cases h
    | some o =>
      rw [he] at h
      cases o with
      | none => cases h
      | some q =>
        cases h
        have sp : Spec c (theFn 24) [.li f, .li g] (.li r) 4 := zexact_spec c f g 60 (some r) hgn he
        exact ev_call sp (hR.mono (by omega)) (evl_cons (ev_name rfl) (evl_cons (ev_name rfl) evl_nil))
  · have h : (if decide ((0 : Int) < (g.length : Int) - 1) then _ else _) = some r := h
    rw [if_neg (by rw [hz]; exact Bool.false_ne_true)] at h
    cases h
    exact ev_name rfl

def lessP (l : List Int) : List Int := if decide ((1 : Int) < (gcdAll l : Int)) then divP l (gcdAll l) else l
theorem lessened_spec (c : Cx) (l : List Int) (h : smB (gcdAll l) = true) : Spec c (theFn 37) [.li l] (.li (lessP l)) 4 := by
  refine spec_intro (n := 3) ["p"] fun pm code doc L f A s₀ B hR => ?_
  refine run_lenok "p" rfl fun hl => ?_
  refine run_assign (fun B => ev_call (zcontent_spec c l) hR (evl_cons (ev_name rfl) evl_nil)) ?_
  refine run_return retQ_ok fun B => ev_if_li (tr_cmp (ev_gt (ev_name rfl) ev_int)) (fun hz => ?_) fun hz => ev_name rfl
  have := of_decide_eq_true hz
  exact ev_compT _ [("content", .int (gcdAll l))] (it_li hR.1 (ev_name rfl)) ⟨⟨rfl, rfl, rfl, rfl⟩, trivial⟩ (fun n hn C => ev_fdiv (ev_name rfl) (ev_name rfl) (by omega) (smB_sm h)) hl

def nextRow (a b : List Int) : Option (List Int) :=
  match pseudoP a b with
  | none => none
  | some t => if smB (gcdAll (if (t.2.2.fmod 2 == 1) && decide (leadP b < 0) then t.2.1 else negP t.2.1)) then some (lessP (if (t.2.2.fmod 2 == 1) && decide (leadP b < 0) then t.2.1 else negP t.2.1)) else none
theorem next_of_row_spec (c : Cx) (a b r : List Int) (h : nextRow a b = some r) : Spec c (theFn 38) [.li a, .li b] (.li r) 5 := by
  unfold nextRow at h
  cases hp : pseudoP a b with
  | none => rw [hp] at h; cases h
  | some t =>
  obtain ⟨x, y, m⟩ := t
  rw [hp] at h
  obtain ⟨o, h⟩ := some_of_if' h
  refine spec_intro (n := 4) ["a", "b"] fun pm code doc L f A s₀ B hR => ?_
  refine run_unpack3 hR.1 (fun B => ev_call (pseudo_spec c a b x y m hp) hR (evl_cons (ev_name rfl) (evl_cons (ev_name rfl) evl_nil))) ?_
  refine run_ifa (b := (m.fmod 2 == 1) && decide (leadP b < 0)) (fun B => tr_and2 (tr_cmp (ev_eq (ev_mod (ev_name rfl) ev_int (by decide)) ev_int)) fun _ => tr_cmp (ev_lt (ev_call (zlead_spec c b) (hR.mono (by omega)) (evl_cons (ev_name rfl) evl_nil)) ev_int)) (fun hz => ?_) fun hz => ?_
  · have h : some (lessP (if (m.fmod 2 == 1) && decide (leadP b < 0) then y else negP y)) = some r := h
    have o : smB (gcdAll (if (m.fmod 2 == 1) && decide (leadP b < 0) then y else negP y)) = true := o
    rw [if_pos hz] at h o
    cases h
    exact run_return retQ_ok fun B => ev_call (lessened_spec c y o) hR (evl_cons (ev_name rfl) evl_nil)
  · have h : some (lessP (if (m.fmod 2 == 1) && decide (leadP b < 0) then y else negP y)) = some r := h
    have o : smB (gcdAll (if (m.fmod 2 == 1) && decide (leadP b < 0) then y else negP y)) = true := o
    rw [if_neg (by rw [hz]; exact Bool.false_ne_true)] at h o
    cases h
    exact run_return retQ_ok fun B => ev_call (lessened_spec c _ o) hR (evl_cons (ev_call (zneg_spec c y) (hR.mono (by omega)) (evl_cons (ev_name rfl) evl_nil)) evl_nil)

def sturmF : Nat → List (List Int) → List Int → Option (List (List Int))
  | 0, _, _ => none
  | k + 1, row, later =>
    if !decide (later = []) then
      match (row ++ [later])[((-2 : Int) + (row ++ [later]).length).toNat]? with
      | none => none
      | some prev =>
        if !(decide (row.length + 1 ≤ 4096) && decide (1 ≤ row.length)) then none else
        match nextRow prev later with
        | none => none
        | some nx => sturmF k (row ++ [later]) nx
    else some row
theorem sturm_row_spec (c : Cx) (f : List Int) (r : List (List Int)) (n : Nat) (h : sturmF n [f] (deriveP f) = some r) : Spec c (theFn 39) [.li f] (.ll r) 6 := by
  refine spec_intro (n := 5) ["f"] fun pm code doc L a A s₀ B hR => ?_
  refine run_swap2_own1 (y1 := .ll [f]) hR.1 (fun B => evf_listll (ls := [f]) (evl_cons (ev_name rfl) evl_nil) (by unfold LenOk; simp)) (fun B => ev_call (zderive_spec c f) (hR.mono (by omega)) (evl_cons (ev_name rfl) evl_nil)) fun ad => ?_
  refine run_while (σ := List (List Int) × List Int) (fun x => ⟨[("later", .li x.2)], some ("found", ad, .ll x.1)⟩) (fun n x => sturmF n x.1 x.2 = some r) (fun x => !decide (x.2 = [])) ?_ ?_ ?_ n ([f], deriveP f) h
  · exact fun n x _ B => tr_cmp (ev_ne_li hR (ev_name rfl) (ev_list (l := []) evl_nil (by unfold LenOk; simp)))
  · rintro n ⟨row, later⟩ hx hc
    cases n with
    | zero => cases hx
    | succ n =>
      have hc : (!decide (later = [])) = true := hc
      have hx : sturmF (n + 1) row later = some r := hx
      rw [sturmF, if_pos hc] at hx
      cases hl : (row ++ [later])[((-2 : Int) + (row ++ [later]).length).toNat]? with
      | none => rw [hl] at hx; cases hx
      | some prev =>
        rw [hl] at hx
        obtain ⟨o, hx⟩ := some_of_if hx
        obtain ⟨o1, o2⟩ := Bool.and_eq_true_iff.mp (by simpa using o : (decide (row.length + 1 ≤ 4096) && decide (1 ≤ row.length)) = true)
        have o1 := of_decide_eq_true o1
        have o2 := of_decide_eq_true o2
        have hlen : (row ++ [later]).length = row.length + 1 := by simp
        cases hn : nextRow prev later with
        | none => rw [hn] at hx; cases hx
        | some nx =>
          rw [hn] at hx
          refine run_append (ls := row) (y := later) (fun B => ev_name rfl) (by unfold LenOk; omega) ?_
          refine run_assign (fun B => ev_call (next_of_row_spec c prev later nx hn) hR (evl_cons (ev_ownll (ls := row ++ [later]) rfl (ev_neg ev_int) (by omega) (by omega) hl) (evl_cons (ev_ownll (ls := row ++ [later]) (y := later) rfl (ev_neg ev_int) (by omega) (by omega) (by
            rw [show ((-1 : Int) + ((row ++ [later]).length : Int)).toNat = row.length by omega]
            simp)) evl_nil))) ?_
          exact run_loopend (d' := ⟨[("later", _)], _⟩) ⟨n, (_, _), Nat.lt_succ_self _, hx, rfl⟩
  · rintro n ⟨row, later⟩ hx hc
    cases n with
    | zero => cases hx
    | succ n =>
      have hc : (!decide (later = [])) = false := hc
      have hx : sturmF (n + 1) row later = some r := hx
      rw [sturmF, if_neg (by rw [hc]; exact Bool.false_ne_true)] at hx
      cases hx
      exact run_freeze rfl rep_of_ll (run_return retQ_ok fun B => ev_name rfl)
end Mine
namespace Mine

/- a comprehension over rows -/
theorem ints_uniq : ∀ {vs : List Value} {l m : List Int}, IntsAre vs l → IntsAre vs m → l = m
  | _, _, _, .nil, .nil => rfl
  | _, _, _, .cons n t r, .cons _ _ r' => by rw [ints_uniq r r']
theorem intsAt_uniq {h : Heap} {B : List Addr} {l m : List Int} {a : Addr} (x : IntsAt h B l a) (y : IntsAt h B m a) : l = m := by
  obtain ⟨_, _, vs, ⟨o, ho, hc, n, hd⟩, hi⟩ := x
  obtain ⟨_, _, ws, ⟨o', ho', hc', n', hd'⟩, hj⟩ := y
  rw [ho] at ho'
  cases ho'
  rw [hd] at hd'
  cases hd'
  exact ints_uniq hi hj
section
variable {c : Cx} {A : Around} {env : Env} {d : D} {B : List Addr} {pos p q : Pos}

theorem rows_paired {h : Heap} {Bb : List Addr} {F : List Int → Int} : ∀ {ls : List (List Int)} {vs ys : List Value}, vs.length = ls.length → (∀ (j : Nat) (v : Value), vs[j]? = some v → ∃ x, (ls.map V.li)[j]? = some x ∧ Rep h Bb x v) → Paired (fun v y => ∀ a l, v = .ref a → IntsAt h Bb l a → ∃ t, y = .int (F l) t) (vs.filter fun _ => true) ys → IntsAre ys (ls.map F)
  | [], [], ys, _, _, hp => by cases hp; exact .nil
  | [], _ :: _, _, e, _, _ => by cases e
  | _ :: _, [], _, e, _, _ => by cases e
  | l :: ls, v :: vs, ys, e, h, hp => by
    obtain ⟨x, hx, hr⟩ := h 0 v rfl
    simp at hx
    subst hx
    obtain ⟨a, rfl, hi⟩ := rep_li hr
    rw [List.filter_cons, if_pos rfl] at hp
    cases hp with
    | cons h1 h2 =>
      obtain ⟨t, rfl⟩ := h1 a l rfl hi
      exact .cons _ _ (rows_paired (by simpa using e) (fun j w hj => h (j + 1) w (by simpa using hj)) h2)

theorem ev_compll {elt iter : Expr} {x : Str} {px : Pos} {scope : Scope} {cl : List (Str × Addr)} {ls : List (List Int)} (F : List Int → Int) (ρ' : Rho) (hit : It c A env d B iter (ls.map V.li))
    (hf : FreeOk env scope cl d ρ') (helt : ∀ l ∈ ls, ∀ C, Ev c A (compEnvC scope cl C env) ⟨(x, .li l) :: ρ', none⟩ [] elt (.int (F l))) (hl : LenOk ls.length)
    (hclos : closureFor scope env = pure cl := by rfl) (hcell : ∀ y ∈ scope.names, y.2 ≠ .cell := by decide) (hkind : scope.kind = .function := by rfl) (hnames : ∀ y ∈ scope.names, y.2 = .local → scope.names.lookup y.1 = some .local := by decide) (hx : scope.names.lookup x = some .local := by rfl)
    (hs : ∀ x, foldedSetIterable iter env x = pure x := by intro _; rfl) : Ev c A env d B (.ListComp elt [⟨.Name x px, iter, [], 0⟩] scope pos) (.li (ls.map F)) := by
  intro s E Q P hQ
  rw [eval_ListComp]
  refine wpAny_comprehension_free (use := none) rfl hs hclos hkind hnames (hit s _ _ P fun s₁ s₂ I fp wr St k₁ k₂ W hsz hst hfp hfB hwr hwl => ?_)
  have hold : ∀ s₃ : Shared, (∀ b o, b ∉ wr → s₂.heap.get? b = some o → s₃.heap.get? b = some o) → ∀ b o, s₁.heap.get? b = some o → s₃.heap.get? b = some o := fun s₃ hk b o e => hk b o (fun hm => by
    rw [hwr b hm] at e; cases e) (Kp.get k₂ e)
  refine comp_block_walkC (RR := fun acc C => compPost (model c.prog c.w) A E none Q acc C) W hsz (fun _ => true) (fun v y => ∀ a l, v = .ref a → IntsAt s₁.heap B l a → ∃ t, y = .int (F l) t) hcell hkind hx hst (fun b hb => let ⟨o, e⟩ := hfp b hb; Heap.lt_size e) ⟨fun C i v s₃ m₃ E' hC hP hn hm hk htk => ?_, fun C i v s₃ m₃ E' hC hP hp hn hm hk htk => ?_⟩ ?_
  · rw [List.forIn_nil]
    exact wpAny_pure ⟨rfl, Kp.refl _⟩
  · obtain ⟨y, hy, hr⟩ := hP
    rw [List.getElem?_map] at hy
    obtain ⟨l, hl', rfl⟩ := Option.map_eq_some_iff.mp hy
    obtain ⟨a, rfl, hi⟩ := rep_li hr
    have k13 := hold s₃ hk
    have P₃ := comp_pre (y := .li l) (ρ' := ρ') P (fun b o e => k13 b o (Kp.get k₁ e)) hkind hx hn hm ⟨a, rfl, (hi.off fun b o _ e => k13 b o e).sub fun b hb => nomatch hb⟩ hf
    refine helt l (List.mem_of_getElem? hl') C s₃ _ _ P₃ fun val s₄ k₄ r₄ => ⟨fun a' l' e hi' => ?_, k₄⟩
    cases e
    rw [intsAt_uniq hi' hi]
    exact r₄
  · intro D C h' tk m' ys vs hD hC hDC hn hl2 hpl hlen hP hF hk
    refine ⟨m', hn, fun h'' hs'' => ?_⟩
    have hys := rows_paired (by simpa using hlen) hP hF
    refine hQ (.ref D) { s₂ with heap := h'', toks := tk } (kp_via (Kp.tr k₁ k₂) fun b o e => ?_) ⟨D, rfl, ((P.keeps k₁).keeps k₂).fresh hD, by simpa using hl, ys, (hpl.extBut hs''.extBut hDC).isList, hys⟩
    have e1 := Kp.get k₁ e
    have e2 := Kp.get k₂ e1
    exact hs''.extBut b o (by rintro rfl; rw [hC] at e2; cases e2) (hk b o (fun hm => by rw [hwr b hm] at e1; cases e1) e2)
end

def signsP (row : List (List Int)) (top bottom : Int) : List Int := ((row.map fun p => valP p top bottom).filter fun n => n != 0).map fun n => n
def changesP (l : List Int) : Nat := (((uptoI 1 ((l.length : Int) - 1).toNat).filter fun n => l.getD n.toNat 0 != l.getD (n - 1).toNat 0).map fun _ => (1 : Int)).length
theorem changes_at_spec (c : Cx) (row : List (List Int)) (top bottom : Int) (hp : ∀ p ∈ row, ∀ x ∈ p, Sm x) (ht : Sm top) (hb : Sm bottom) : Spec c (theFn 40) [.ll row, .ti [top, bottom]] (.int (changesP (signsP row top bottom))) 4 := by
  refine spec_intro (n := 3) ["row", "x"] fun pm code doc L f A s₀ B hR => ?_
  refine run_lenokll "row" rfl fun hl => ?_
  refine run_assign (fun B => ev_compll (fun p => valP p top bottom) [("x", .ti [top, bottom])] (it_ll hR.1 (ev_name rfl)) (by exact ⟨⟨rfl, rfl, rfl, rfl⟩, trivial⟩) (fun l hl C => ev_call (sign_at_spec c l top bottom (hp l hl) ht hb) hR (evl_cons (ev_name rfl) (evl_cons (ev_name rfl) evl_nil))) hl (hclos := rfl)) ?_
  refine run_assign (fun B => ev_comp (f := fun n => n) (q := fun n => n != 0) [] (it_li hR.1 (ev_name rfl)) trivial (.one fun n hn C => tr_cmp (ev_ne (ev_name rfl) ev_int)) (fun n hn _ C => ev_name rfl) (by simpa using hl) (hclos := rfl)) ?_
  show Run _ _ _ _ _ ⟨("signs", .li (signsP row top bottom)) :: _, _⟩ _ _
  have hsl : LenOk (signsP row top bottom).length := by
    unfold signsP LenOk at *
    have := List.length_filter_le (fun n => n != 0) (row.map fun p => valP p top bottom)
    simp only [List.length_map] at this ⊢
    omega
  generalize signsP row top bottom = l at hsl ⊢
  unfold LenOk at hsl
  have hn : LenOk ((l.length : Int) - 1).toNat := by unfold LenOk; omega
  refine run_return retQ_ok fun B => ev_len (ev_comp (f := fun _ => 1) (q := fun n => l.getD n.toNat 0 != l.getD (n - 1).toNat 0) [("signs", .li l)] (upto_eq _ _ ▸ it_range2 hR.1 ev_int (ev_len (ev_name rfl)) rfl hn (by omega) (by omega)) (by exact ⟨⟨rfl, rfl, rfl, rfl⟩, trivial⟩) (.one fun n hn C => ?_) (fun n hn _ C => ev_int) (by rw [uptoI_length]; exact hn) (hclos := rfl))
  have hn' := mem_uptoI hn
  exact tr_cmp (ev_ne (ev_item (ev_name rfl) (ev_name rfl) (by omega) (getD_get (by omega))) (ev_item (ev_name rfl) (ev_sub (ev_name rfl) ev_int) (by omega) (getD_get (by omega))))

def smRows (row : List (List Int)) : Bool := row.all fun p => p.all smB
theorem smRows_ok {row : List (List Int)} (h : smRows row = true) : ∀ p ∈ row, ∀ x ∈ p, Sm x := fun p hp x hx => smB_sm (List.all_eq_true.mp (List.all_eq_true.mp h p hp) x hx)
def byRow (row : List (List Int)) (a b x y : Int) : Int := (changesP (signsP row a b) : Int) - changesP (signsP row x y)
theorem count_by_row_spec (c : Cx) (row : List (List Int)) (a b x y : Int) (hp : smRows row = true) (ha : Sm a) (hb : Sm b) (hx : Sm x) (hy : Sm y) : Spec c (theFn 41) [.ll row, .ti [a, b], .ti [x, y]] (.int (byRow row a b x y)) 5 := by
  refine spec_intro (n := 4) ["row", "low", "high"] fun pm code doc L f A s₀ B hR => ?_
  exact run_return retQ_ok fun B => ev_sub (ev_call (changes_at_spec c row a b (smRows_ok hp) ha hb) hR (evl_cons (ev_name rfl) (evl_cons (ev_name rfl) evl_nil))) (ev_call (changes_at_spec c row x y (smRows_ok hp) hx hy) hR (evl_cons (ev_name rfl) (evl_cons (ev_name rfl) evl_nil)))

def rootsP (f : List Int) (a b x y : Int) : Option Int :=
  match simpleP f with
  | none => none
  | some g =>
    match sturmF 60 [g] (deriveP g) with
    | none => none
    | some row => if smRows row then some (byRow row a b x y) else none
theorem count_roots_spec (c : Cx) (f : List Int) (a b x y r : Int) (h : rootsP f a b x y = some r) (ha : Sm a) (hb : Sm b) (hx : Sm x) (hy : Sm y) : Spec c (theFn 42) [.li f, .ti [a, b], .ti [x, y]] (.int r) 9 := by
  unfold rootsP at h
  cases hg : simpleP f with
  | none => rw [hg] at h; cases h
  | some g =>
  rw [hg] at h
  have h : (match sturmF 60 [g] (deriveP g) with | none => none | some row => if smRows row then some (byRow row a b x y) else none) = some r := h
  cases hs : sturmF 60 [g] (deriveP g) with
  | none => rw [hs] at h; cases h
  | some row =>
  rw [hs] at h
  obtain ⟨o, h⟩ := some_of_if' h
  cases h
  refine spec_intro (n := 8) ["f", "low", "high"] fun pm code doc L e A s₀ B hR => ?_
  exact run_return retQ_ok fun B => ev_call (count_by_row_spec c row a b x y o ha hb hx hy) (hR.mono (by omega)) (evl_cons (ev_call (sturm_row_spec c g row 60 hs) (hR.mono (by omega)) (evl_cons (ev_call (simple_part_spec c f g hg) hR (evl_cons (ev_name rfl) evl_nil)) evl_nil)) (evl_cons (ev_name rfl) (evl_cons (ev_name rfl) evl_nil)))
end Mine
namespace Mine

/- _law_by -/
def byStep (b rest : List Int) : List Int := (mapI (fun i y => if decide ((rest.length : Int) - b.length ≤ (i : Int)) then y - leadP rest * b.getD ((i : Int) - ((rest.length : Int) - b.length)).toNat 0 else y) 0 rest).dropLast
def byF (b : List Int) : Nat → List Int → List Int → Option (Option (List Int))
  | 0, _, _ => none
  | k + 1, rest, found =>
    if decide ((b.length : Int) ≤ rest.length) then
      if !smB (leadP rest) || !decide (found.length + 1 ≤ 4096) then none else byF b k (byStep b rest) (leadP rest :: found)
    else some (if decide ((rest.filter fun n => n != 0).map (fun n => n) = []) then some found else none)
def lawBy (a b : List Int) : Option (Option (List Int)) := if ((b.length : Int) == 0) then none else byF b (a.length + 1) a []
theorem law_by_spec (c : Cx) (a b : List Int) (r : Option (List Int)) (h : lawBy a b = some r) : Spec c (theFn 45) [.li a, .li b] (optV r) 1 := by
  unfold lawBy at h
  obtain ⟨hb, h⟩ := some_of_if h
  have hb : b ≠ [] := fun e => by subst e; cases hb
  have hbl := List.length_pos_iff.mpr hb
  refine spec_intro (n := 0) ["a", "b"] fun pm code doc L f A s₀ B hR => ?_
  refine run_swap2 hR.1 (fun B => evl_cons (ev_listcopy (ev_name rfl)) (evl_cons (ev_list (l := []) evl_nil (by unfold LenOk; simp)) evl_nil)) ?_
  refine run_while (σ := List Int × List Int) (fun x => ⟨[("rest", .li x.1), ("found", .li x.2), ("b", .li b)], none⟩) (fun n x => byF b n x.1 x.2 = some r) (fun x => decide ((b.length : Int) ≤ x.1.length)) ?_ ?_ ?_ _ (a, []) h
  · exact fun n x _ B => tr_cmp (ev_ge (ev_len (ev_name rfl)) (ev_len (ev_name rfl)))
  · rintro n ⟨rst, fnd⟩ hx hc
    cases n with
    | zero => cases hx
    | succ n =>
      have hc : decide ((b.length : Int) ≤ rst.length) = true := hc
      have hx : byF b (n + 1) rst fnd = some r := hx
      rw [byF, if_pos hc] at hx
      obtain ⟨o1, hx⟩ := some_of_if hx
      obtain ⟨o1, o2⟩ := Bool.or_eq_false_iff.mp o1
      have nS : Sm (leadP rst) := smB_sm (by simpa using o1)
      have fl : fnd.length + 1 ≤ 4096 := by simpa using o2
      have hle := of_decide_eq_true hc
      have hrn : rst ≠ [] := fun e => by have h2 := congrArg List.length e; simp only [List.length_nil] at h2; omega
      refine run_lenok "rest" (l := rst) rfl fun hl => ?_
      refine run_assign (fun B => ev_last (ev_name rfl) (ev_neg ev_int) hrn) ?_
      refine run_assign (v := .li (leadP rst :: fnd)) (fun B => ev_cat (x := [leadP rst]) (ev_list (l := [leadP rst]) (evl_cons (ev_name rfl) evl_nil) (by unfold LenOk; simp)) (ev_name rfl) (by unfold LenOk; simp only [List.length_append, List.length_cons, List.length_nil]; omega)) ?_
      refine run_assign (fun B => ev_sub (ev_len (ev_name rfl)) (ev_len (ev_name rfl))) ?_
      refine run_assign (v := .li (byStep b rst)) (fun B => ev_butlast (ev_comp_enum (fun i y => if decide ((rst.length : Int) - b.length ≤ (i : Int)) then y - leadP rst * b.getD ((i : Int) - ((rst.length : Int) - b.length)).toNat 0 else y) [("b", .li b), ("number", .int (leadP rst)), ("begin", .int ((rst.length : Int) - b.length))] hR.1 (ev_name rfl) (by exact ⟨⟨rfl, rfl, rfl, rfl⟩, ⟨rfl, rfl, rfl, rfl⟩, ⟨rfl, rfl, rfl, rfl⟩, trivial⟩) (fun i y hy C => ev_if_int (tr_cmp (ev_ge (ev_name rfl) (ev_name rfl))) (fun hz => ?_) fun hz => ev_name rfl) hl (hclos := rfl)) (ev_neg ev_int)) ?_
      · have hz := of_decide_eq_true hz
        have hi : i < rst.length := (List.getElem?_eq_some_iff.mp hy).1
        exact ev_sub (ev_name rfl) (ev_mul (ev_name rfl) (ev_item (ev_name rfl) (ev_sub (ev_name rfl) (ev_name rfl)) (by omega) (getD_get (by omega))) nS.mul_left)
      · exact run_loopend ⟨n, (_, _), Nat.lt_succ_self _, hx, rfl⟩
  · rintro n ⟨rst, fnd⟩ hx hc
    cases n with
    | zero => cases hx
    | succ n =>
      have hc : decide ((b.length : Int) ≤ rst.length) = false := hc
      have hx : byF b (n + 1) rst fnd = some r := hx
      rw [byF, if_neg (by rw [hc]; exact Bool.false_ne_true)] at hx
      cases hx
      refine run_lenok "rest" (l := rst) rfl fun hl => ?_
      refine run_return retQ_ok fun B => ?_
      refine ev_if (b := decide ((rst.filter fun n => n != 0).map (fun n => n) = [])) (tr_cmp (ev_eq_li hR (ev_comp (f := fun n => n) (q := fun n => n != 0) [] (it_li hR.1 (ev_name rfl)) trivial (.one fun n hn C => tr_cmp (ev_ne (ev_name rfl) ev_int)) (fun n hn _ C => ev_name rfl) hl) (ev_list (l := []) evl_nil (by unfold LenOk; simp)))) (fun h => ?_) fun h => ?_
      · rw [if_pos h]
        exact ev_name rfl
      · rw [if_neg (by rw [h]; exact Bool.false_ne_true)]
        exact ev_none

/- folds that may fail -/
def foldO {α β : Type} (f : β → α → Option β) : β → List α → Option β
  | b, [] => some b
  | b, a :: l => match f b a with
    | none => none
    | some x => foldO f x l
def stAt {α β : Type} (f : β → α → Option β) : β → List α → Nat → β
  | b, _, 0 => b
  | b, [], _ + 1 => b
  | b, a :: l, i + 1 => match f b a with
    | none => b
    | some x => stAt f x l i
theorem stAt_step {α β : Type} (f : β → α → Option β) : ∀ (l : List α) (b r : β), foldO f b l = some r → ∀ i a, l[i]? = some a → f (stAt f b l i) a = some (stAt f b l (i + 1))
  | [], b, r, h, i, a, e => by simp at e
  | x :: l, b, r, h, 0, a, e => by
    simp at e
    subst e
    unfold foldO at h
    cases hf : f b x with
    | none => rw [hf] at h; cases h
    | some y =>
      show f b x = some (match f b x with | none => b | some x => stAt f x l 0)
      rw [hf]
      cases l <;> rfl
  | x :: l, b, r, h, i + 1, a, e => by
    unfold foldO at h
    cases hf : f b x with
    | none => rw [hf] at h; cases h
    | some y =>
      rw [hf] at h
      have := stAt_step f l y r h i a (by simpa using e)
      show f (match f b x with | none => b | some x => stAt f x l i) a = some (match f b x with | none => b | some x => stAt f x l (i + 1))
      rw [hf]
      exact this
theorem stAt_end {α β : Type} (f : β → α → Option β) : ∀ (l : List α) (b r : β), foldO f b l = some r → stAt f b l l.length = r
  | [], b, r, h => by cases h; rfl
  | x :: l, b, r, h => by
    unfold foldO at h
    cases hf : f b x with
    | none => rw [hf] at h; cases h
    | some y =>
      rw [hf] at h
      show (match f b x with | none => b | some x => stAt f x l l.length) = r
      rw [hf]
      exact stAt_end f l y r h
theorem stAt_zero {α β : Type} (f : β → α → Option β) (b : β) (l : List α) : stAt f b l 0 = b := by cases l <;> rfl

/- a dict that the frame fills -/
section
variable {c : Cx} {s₀ : Shared} {B₀ : List Addr} {A : Around} {env : Env} {d : D} {Q : Post} {rest : List Stmt} {pos p : Pos} {B : List Addr} {G : Addr → Option Obj} {s : Shared}
theorem evf_dict : EvF c A env d B (.Dict [] [] p) (.di []) := by
  intro s E Q P hQ
  refine wpAny_Dict_empty (hQ _ _ (push_kp _) get_size ⟨_, Heap.IntMap.new _, Heap.DictLe.new _, by unfold LenOk; simp, fun k y e => nomatch e⟩)
theorem rep_of_di {l : List (Int × List Int)} : ∀ h B a, Cont h B (.di l) a → a ∉ B → Rep h B (.di l) (.ref a) := fun _ _ _ x hb => ⟨_, rfl, hb, x⟩
/- x[i] = e, x a dict -/
theorem run_setdict {ρ : Rho} {x : Str} {px pt : Pos} {i e : Expr} {a : Addr} {l : List (Int × List Int)} {k : Int} {y : List Int} (he : ∀ B, Ev c A env ⟨ρ, some (x, a, .di l)⟩ B e (.li y)) (hi : ∀ B, Ev c A env ⟨ρ, some (x, a, .di l)⟩ B i (.int k)) (hlen : LenOk (l.length + 1)) (hr : Run c s₀ B₀ A env ⟨ρ, some (x, a, .di ((k, y) :: l))⟩ rest Q) (hd : (x == ("__debug__" : Str)) = false := by rfl)
    (hs : swapsWith e (some (.Subscript (.Name x px) i pt)) pos.line env = pure false := by rfl) : Run c s₀ B₀ A env ⟨ρ, some (x, a, .di l)⟩ (.Assign [.Subscript (.Name x px) i pt] e pos :: rest) Q := by
  intro G B s E I
  refine wpAny_execs_cons (wpAny_Assign_Subscript (he _ s _ _ I.pre fun v s₁ k₁ r₁ => own_name (I.keeps k₁).pre rfl hd (hi _ s₁ _ _ (I.keeps k₁).pre fun w s₂ k₂ r₂ => ?_)) hs)
  obtain ⟨u, rfl⟩ := r₂
  have I₂ := (I.keeps k₁).keeps k₂
  obtain ⟨b, rfl, hb⟩ := rep_li (r₁.off (Kp.off k₂ _))
  obtain ⟨_, f, hm, hz, hl, hdd⟩ := I₂.pre.ow x a (.di l) rfl
  have hline : l.length ≤ sizeLine := hl.line
  refine wpAny_setItem_intMap_le hm hz hline fun h' hm' hz' hs' => hr G B _ E (I₂.turnOwn hs' ⟨_, hm', hz', hlen, fun k' y' e' => ?_⟩)
  have hab : a ∈ bx env ⟨ρ, some (x, a, .di l)⟩ B := List.mem_append.mpr (.inl (List.mem_cons_self ..))
  have off : Off (bx env ⟨ρ, some (x, a, .di l)⟩ B) s₂.heap h' := fun b o hb e => hs'.extBut b o (fun e' => hb (e' ▸ hab)) e
  rw [List.lookup_cons] at e'
  by_cases hk : k' = k
  · subst hk
    rw [beq_self_eq_true] at e'
    cases e'
    exact ⟨b, if_pos rfl, hb.off off⟩
  · rw [beq_eq_false_iff_ne.mpr hk] at e'
    obtain ⟨b', e1, e2⟩ := hdd k' y' e'
    exact ⟨b', (if_neg hk).trans e1, e2.off off⟩
theorem ev_owndi {x : Str} {q : Pos} {i : Expr} {l : List (Int × List Int)} {a : Addr} {k : Int} {y : List Int} (ho : d.own = some (x, a, .di l)) (h2 : Ev c A env d B i (.int k)) (hx : l.lookup k = some y) (hd : (x == ("__debug__" : Str)) = false := by rfl)
    (hs : SubInt i := by intro _ _ _; with_unfolding_all rfl) : Ev c A env d B (.Subscript (.Name x q) i p) (.li y) := by
  intro s E Q P hQ
  refine Subscript_ (own_name P ho hd (h2 s _ _ P fun vb s₂ k₂ r₂ => ?_))
  obtain ⟨u, rfl⟩ := r₂
  obtain ⟨_, f, hm, hz, hl, hdd⟩ := (P.keeps k₂).ow _ _ _ ho
  obtain ⟨b, e1, e2⟩ := hdd k y hx
  exact tail_any hm.typeIs slot_dict_getitem.lookup (wpAny_getItem_intMap hm e1 (hQ _ _ (Kp.tr k₂ (Kp.tok _ _)) ⟨b, rfl, e2⟩)) (hs _ _ _)

theorem refs_paired {h : Heap} {Bb : List Addr} {F : Int → List Int} : ∀ {vs : List Value} {ns : List Int} {ys : List Value}, IntsAre vs ns → Paired (fun v y => ∀ n t, v = .int n t → ∃ b, y = .ref b ∧ IntsAt h Bb (F n) b) (vs.filter fun _ => true) ys → RowsAre h Bb ys (ns.map F)
  | _, _, ys, .nil, hp => by cases hp; exact .nil
  | _, _, ys, .cons n t r, hp => by
    rw [List.filter_cons, if_pos rfl] at hp
    cases hp with
    | cons h1 h2 =>
      obtain ⟨b, rfl, hb⟩ := h1 n t rfl
      exact .cons hb (refs_paired r h2)
/- [x[n] for n in ..], x a dict -/
theorem ev_comp_di {iter : Expr} {x y : Str} {px p1 p2 ps : Pos} {scope : Scope} {cl : List (Str × Addr)} {ns : List Int} {l : List (Int × List Int)} (F : Int → List Int) (hit : It c A env d B iter (ns.map V.int))
    (hf : FreeOk env scope cl d [(y, .di l)]) (hl : ∀ n ∈ ns, l.lookup n = some (F n)) (hln : LenOk ns.length)
    (hclos : closureFor scope env = pure cl := by rfl) (hcell : ∀ y ∈ scope.names, y.2 ≠ .cell := by decide) (hkind : scope.kind = .function := by rfl) (hnames : ∀ y ∈ scope.names, y.2 = .local → scope.names.lookup y.1 = some .local := by decide) (hx : scope.names.lookup x = some .local := by rfl) (hxy : y ≠ x := by decide) (hd : (y == ("__debug__" : Str)) = false := by rfl) (hd2 : (x == ("__debug__" : Str)) = false := by rfl)
    (hsub : SubInt (.Name x p2) := by intro _ _ _; with_unfolding_all rfl)
    (hs : ∀ x, foldedSetIterable iter env x = pure x := by intro _; rfl) : Ev c A env d B (.ListComp (.Subscript (.Name y p1) (.Name x p2) ps) [⟨.Name x px, iter, [], 0⟩] scope pos) (.ll (ns.map F)) := by
  intro s E Q P hQ
  have hdi := (hf.at y (.di l) (by rw [List.lookup_cons, beq_self_eq_true])).1
  obtain ⟨dv, hrd, da, rfl, hda, f, hm, hz, hll, hdd⟩ := P.vw y (.di l) hdi
  refine wpAny_ListComp_free (fun _ => true) (fun v y => ∀ n t, v = .int n t → ∃ b, y = .ref b ∧ IntsAt s.heap B (F n) b) hclos hcell hkind hnames hx (hit s _ _ P fun s₁ s₂ I fp wr St k₁ k₂ W hsz hst hfp hfB hwr hwl => ?_) hs
  have hold : ∀ s₃ : Shared, (∀ b o, b ∉ wr → s₂.heap.get? b = some o → s₃.heap.get? b = some o) → ∀ b o, s.heap.get? b = some o → s₃.heap.get? b = some o := fun s₃ hk b o e => hk b o (fun hm => by
    have := Kp.get k₁ e
    rw [hwr b hm] at this; cases this) (Kp.get k₂ (Kp.get k₁ e))
  have item : ∀ (i : Nat) (v : Value), (∃ x, (ns.map V.int)[i]? = some x ∧ Rep s₁.heap B x v) → ∃ n t, n ∈ ns ∧ v = .int n t := fun i v ⟨y, hy, hr⟩ => by
    rw [List.getElem?_map] at hy
    obtain ⟨n, hn, rfl⟩ := Option.map_eq_some_iff.mp hy
    obtain ⟨t, rfl⟩ := hr
    exact ⟨n, t, List.mem_of_getElem? hn, rfl⟩
  refine ⟨I, fp, wr, _, _, St, rfl, W, hsz, hst, fun b hb => let ⟨o, e⟩ := hfp b hb; Heap.lt_size e, ⟨fun C i v s₃ m₃ E' hC hP hn hm' hk htk => ?_, fun C i v s₃ m₃ E' hC hP hp hn hm' hk htk => ?_⟩, fun D h' tk ys vs hD hp hpl hlen hP hF hk => ?_⟩
  · rw [List.forIn_nil]
    exact wpAny_pure ⟨rfl, Kp.refl _⟩
  · obtain ⟨n, t, hmem, rfl⟩ := item i v hP
    have k3 := hold s₃ hk
    have P₃ := comp_pre (y := .int n) (ρ' := [(y, .di l)]) P k3 hkind hx hn hm' ⟨t, rfl⟩ hf
    obtain ⟨b, e1, e2⟩ := hdd n (F n) (hl n hmem)
    have hm3 : s₃.heap.IntMap da f := let ⟨o, es, ep, ho, r⟩ := hm; ⟨o, es, ep, k3 _ _ ho, r⟩
    -- the dict itself: it stands in the closure's cell
    obtain ⟨f1, f2, f3, f4⟩ := hf.at y (.di l) (by rw [List.lookup_cons, beq_self_eq_true])
    rcases hrd with ⟨q1, _⟩ | ⟨q1, k, hk', hc⟩
    · rw [f3] at q1; cases q1
    have nx : Ev c A (compEnvC scope cl C env) ⟨(x, .int n) :: [(y, .di l)], none⟩ [] (.Name x p2) (.int n) := ev_name (by rw [List.lookup_cons, beq_self_eq_true]) hd2
    refine Subscript_ (wpAny_Name (wpAny_loadName_cell P₃.ek f2 (f4.trans hk') (hc.keeps k3) (nx s₃ _ _ P₃ fun w s₄ k₄ r₄ => ?_)) hd)
    obtain ⟨u, rfl⟩ := r₄
    have hm4 : s₄.heap.IntMap da f := let ⟨o, es, ep, ho, r⟩ := hm3; ⟨o, es, ep, Kp.get k₄ ho, r⟩
    exact tail_any hm4.typeIs slot_dict_getitem.lookup (wpAny_getItem_intMap hm4 e1 ⟨fun n' t' e => by cases e; exact ⟨b, rfl, e2⟩, Kp.tr k₄ (Kp.tok _ _)⟩) (hsub _ _ _)
  · have hi : IntsAre vs ns := ints_of (by simpa using hlen) hP
    have hys := refs_paired hi hF
    have hold : ∀ b o, s.heap.get? b = some o → h'.get? b = some o := fun b o e => hk b o (fun hm => by
      have := Kp.get k₁ e
      rw [hwr b hm] at this; cases this) (Kp.get k₂ (Kp.get k₁ e))
    exact hQ _ _ (kp_via (Kp.tr k₁ k₂) hold) ⟨D, rfl, ((P.keeps k₁).keeps k₂).fresh hD, by simpa using hln, ys, hpl, hys.off fun b o _ e => hold b o e⟩
end

/- _law_of_one -/
def row0 (n : Int) : List Int := [-1] ++ List.replicate (n - 1).toNat 0 ++ [1]
def oneIn (l : List (Int × List Int)) (n : Int) (row : List Int) (d : Int) : Option (List Int) :=
  if (d == 0) then none else
  if decide (d < n) && (n.fmod d == 0) then
    match l.lookup d with
    | none => none
    | some q =>
      match lawBy row q with
      | some (some r) => some r
      | _ => none
  else some row
def oneOut (orders : List Int) (l : List (Int × List Int)) (n : Int) : Option (List (Int × List Int)) :=
  if !(decide (0 ≤ n) && decide (n ≤ 4000) && decide (l.length + 1 ≤ 4096)) then none else
  match foldO (oneIn l n) (row0 n) orders with
  | none => none
  | some row => some ((n, row) :: l)
theorem run_lenokti {c : Cx} {s₀ : Shared} {B₀ : List Addr} {A : Around} {env : Env} {d : D} {Q : Post} {ss : List Stmt} (x : Str) {l : List Int} (hx : d.ρ.lookup x = some (.ti l)) (h : LenOk l.length → Run c s₀ B₀ A env d ss Q) : Run c s₀ B₀ A env d ss Q := fun G B s E I => by
  obtain ⟨val, _, q⟩ := I.pre.vw x (.ti l) hx
  obtain ⟨_, _, _, hl, _⟩ := q
  exact h hl G B s E I
theorem own_di {x : Str} {a : Addr} {l m : List (Int × List Int)} (h : l = m) : some (x, a, V.di l) = some (x, a, V.di m) := by rw [h]
theorem law_of_one_spec (c : Cx) (orders : List Int) (l : List (Int × List Int)) (F : Int → List Int) (h : foldO (oneOut orders) [] orders = some l) (hF : ∀ n ∈ orders, l.lookup n = some (F n)) : Spec c (theFn 46) [.ti orders] (.ll (orders.map F)) 2 := by
  refine spec_intro (n := 1) ["orders"] fun pm code doc L f A s₀ B hR => ?_
  refine run_lenokti "orders" rfl fun hol => ?_
  refine run_assign_own (fun B => evf_dict) fun ad => ?_
  refine run_for (fun i => ⟨[("orders", .ti orders)], some ("found", ad, .di (stAt (oneOut orders) [] orders i))⟩) (fun B => it_ti hR.1 (ev_name rfl)) (fun i v hv => ?_) ?_ (ho := by rw [stAt_zero])
  · rw [List.getElem?_map] at hv
    obtain ⟨n, hn, rfl⟩ := Option.map_eq_some_iff.mp hv
    have st := stAt_step (oneOut orders) orders [] l h i n hn
    generalize stAt (oneOut orders) [] orders (i + 1) = l' at st ⊢
    generalize stAt (oneOut orders) [] orders i = l0 at st ⊢
    unfold oneOut at st
    obtain ⟨o, st⟩ := some_of_if st
    have o : (decide (0 ≤ n) && decide (n ≤ 4000) && decide (l0.length + 1 ≤ 4096)) = true := by simpa using o
    obtain ⟨o, o3⟩ := Bool.and_eq_true_iff.mp o
    obtain ⟨o1, o2⟩ := Bool.and_eq_true_iff.mp o
    have o1 := of_decide_eq_true o1
    have o2 := of_decide_eq_true o2
    have o3 := of_decide_eq_true o3
    cases hrow : foldO (oneIn l0 n) (row0 n) orders with
    | none => rw [hrow] at st; cases st
    | some row =>
    rw [hrow] at st
    have st : some ((n, row) :: l0) = some l' := st
    cases st
    refine run_assign (v := .li (row0 n)) (fun B => ev_cat (ev_cat (ev_list (l := [-1]) (evl_cons (ev_neg ev_int) evl_nil) (by unfold LenOk; simp)) (ev_rep0 (ev_list (l := [0]) (evl_cons ev_int evl_nil) (by unfold LenOk; simp)) (ev_sub (ev_name rfl) ev_int) (by unfold LenOk; omega) (by omega)) (by unfold LenOk; simp; omega)) (ev_list (l := [1]) (evl_cons ev_int evl_nil) (by unfold LenOk; simp)) (by unfold LenOk; simp; omega)) ?_
    refine run_for (fun j => ⟨[("row", .li (stAt (oneIn l0 n) (row0 n) orders j)), ("n", .int n), ("orders", .ti orders)], some ("found", ad, .di l0)⟩) (fun B => it_ti hR.1 (ev_name rfl)) (fun j w hw => ?_) ?_ (hw := by rw [stAt_zero]; exact ⟨rfl, rfl, rfl, trivial⟩)
    · rw [List.getElem?_map] at hw
      obtain ⟨k, hk, rfl⟩ := Option.map_eq_some_iff.mp hw
      have su := stAt_step (oneIn l0 n) orders (row0 n) row hrow j k hk
      generalize stAt (oneIn l0 n) (row0 n) orders (j + 1) = r' at su ⊢
      generalize stAt (oneIn l0 n) (row0 n) orders j = r0 at su ⊢
      unfold oneIn at su
      obtain ⟨u0, su⟩ := some_of_if su
      have k0 : k ≠ 0 := by simpa using u0
      refine run_ifa (b := decide (k < n) && (n.fmod k == 0)) (fun B => tr_and2 (tr_cmp (ev_lt (ev_name rfl) (ev_name rfl))) fun _ => tr_cmp (ev_eq (ev_mod (ev_name rfl) (ev_name rfl) k0) ev_int)) (fun hz => ?_) fun hz => ?_
      · rw [if_pos hz] at su
        cases hlk : l0.lookup k with
        | none => rw [hlk] at su; cases su
        | some q =>
          rw [hlk] at su
          have su : (match lawBy r0 q with | some (some r) => some r | _ => none) = some r' := su
          cases hby : lawBy r0 q with
          | none => rw [hby] at su; cases su
          | some o =>
            rw [hby] at su
            cases o with
            | none => cases su
            | some r1 =>
              cases su
              have sp : Spec c (theFn 45) [.li r0, .li q] (.li r') 1 := law_by_spec c r0 q (some r') hby
              refine run_assign (fun B => ev_call sp hR (evl_cons (ev_name rfl) (evl_cons (ev_owndi rfl (ev_name rfl) hlk) evl_nil))) ?_
              exact run_end
      · rw [if_neg (by rw [hz]; exact Bool.false_ne_true)] at su
        cases su
        exact run_end
    · rw [List.length_map, stAt_end _ _ _ _ hrow]
      refine run_setdict (fun B => ev_name rfl) (fun B => ev_name rfl) (by unfold LenOk; omega) ?_
      exact run_end
  · rw [List.length_map, stAt_end _ _ _ _ h]
    exact run_freeze rfl rep_of_di (run_return retQ_ok fun B => ev_comp_di F (it_ti hR.1 (ev_name rfl)) (by exact ⟨⟨rfl, rfl, rfl, rfl⟩, trivial⟩) hF hol (hclos := rfl))
end Mine
namespace Mine

theorem star_tuple (es : List Expr) (k : Nat) (p : Pos) (r : List Expr) (env : Env) : starEach (.Tuple es k p :: r) env = (false, eval (.Tuple es k p) env) :: starEach r env := rfl
theorem star_const (e : Const) (k : Nat) (p : Pos) (r : List Expr) (env : Env) : starEach (.Constant e k p :: r) env = (false, eval (.Constant e k p) env) :: starEach r env := rfl
theorem evl_int {c : Cx} {A : Around} {env : Env} {d : D} {B : List Addr} {p : Pos} {es : List Expr} {vs : List V} {i : Int} {k : Nat} (h : EvL c A env d B es vs) : EvL c A env d B (.Constant (.int i) k p :: es) (.int i :: vs) := evl_cons ev_int h (star_const _ _ _ _ _)
/- _law_is_product -/
def ones : List Int := [1, 2, 3, 4, 5, 6, 7, 8, 9, 10, 12, 14, 18]
def oneMap : List (Int × List Int) := (foldO (oneOut ones) [] ones).getD []
def oneRow (n : Int) : List Int := (oneMap.lookup n).getD []
theorem ones_ok : foldO (oneOut ones) [] ones = some oneMap := by decide +kernel
theorem ones_look : ∀ n ∈ ones, oneMap.lookup n = some (oneRow n) := by decide +kernel
def parts : List (List Int) := ones.map oneRow

theorem parts_spec (c : Cx) : Spec c (theFn 46) [.ti ones] (.ll parts) 2 := law_of_one_spec c ones oneMap oneRow ones_ok ones_look
def prodIn (part : List Int) : Nat → List Int → Option (List Int) → Option (List Int)
  | 0, _, _ => none
  | k + 1, rest, told =>
    match told with
    | none => some rest
    | some t =>
      if decide ((part.length : Int) ≤ rest.length) then
        match lawBy t part with
        | none => none
        | some o => prodIn part k t o
      else some rest
def prodStep (rest part : List Int) : Option (List Int) :=
  match lawBy rest part with
  | none => none
  | some o => prodIn part 60 rest o
theorem is_product_specG (c : Cx) (whole r : List Int) (ps : List (List Int)) (ww : List Int) (hww : ww = [1, 2, 3, 4, 5, 6, 7, 8, 9, 10, 12, 14, 18]) (sp : Spec c (theFn 46) [.ti ww] (.ll ps) 2) (h : foldO prodStep whole ps = some r) : Spec c (theFn 47) [.li whole] (.bool (decide (r = [1]))) 3 := by
  refine spec_intro (n := 2) ["whole"] fun pm code doc L f A s₀ B hR => ?_
  refine run_assign (fun B => ev_name rfl) ?_
  have hwl : LenOk ww.length := by rw [hww]; unfold LenOk; simp
  have tp : ∀ env d B es k p, EvL c A env d B es (ww.map V.int) → Ev c A env d B (.Tuple es k p) (.ti ww) := fun env d B es k p h => ev_tuple h hwl
  have k1 : ∀ B es k p d, Ev c A (fenv (theFn 47) pm code doc L f) d B (.Tuple es k p) (.ti ww) → EvL c A (fenv (theFn 47) pm code doc L f) d B [.Tuple es k p] [.ti ww] := fun B es k p d h => evl_cons h evl_nil (star_tuple _ _ _ _ _)
  refine run_for (xs := ps.map V.li) (fun i => ⟨[("rest", .li (stAt prodStep whole ps i))], none⟩) (fun B => it_ll hR.1 (ev_call sp hR (k1 _ _ _ _ _ ?_) (hes := ⟨_, _, rfl, star_tuple _ _ _ _ _⟩))) (fun i v hv => ?_) ?_ (hw := by rw [stAt_zero]; exact ⟨rfl, trivial⟩)
  · refine tp _ _ _ _ _ _ ?_
    rw [hww]
    show EvL _ _ _ _ _ _ [.int 1, .int 2, .int 3, .int 4, .int 5, .int 6, .int 7, .int 8, .int 9, .int 10, .int 12, .int 14, .int 18]
    clear tp k1 hwl
    refine evl_int ?_
    refine evl_int ?_
    refine evl_int ?_
    refine evl_int ?_
    refine evl_int ?_
    refine evl_int ?_
    refine evl_int ?_
    refine evl_int ?_
    refine evl_int ?_
    refine evl_int ?_
    refine evl_int ?_
    refine evl_int ?_
    refine evl_int ?_
    exact evl_nil
  · rw [List.getElem?_map] at hv
    obtain ⟨part, hn, rfl⟩ := Option.map_eq_some_iff.mp hv
    have st := stAt_step prodStep ps whole r h i part hn
    generalize stAt prodStep whole ps (i + 1) = r' at st ⊢
    generalize stAt prodStep whole ps i = r0 at st ⊢
    unfold prodStep at st
    cases hby : lawBy r0 part with
    | none => rw [hby] at st; cases st
    | some told =>
      rw [hby] at st
      have st : prodIn part 60 r0 told = some r' := st
      refine run_assign (fun B => ev_call (law_by_spec c r0 part told hby) (hR.mono (by omega)) (evl_cons (ev_name rfl) (evl_cons (ev_name rfl) evl_nil))) ?_
      refine run_while (σ := List Int × Option (List Int)) (fun x => ⟨[("rest", .li x.1), ("told", optV x.2), ("part", .li part)], none⟩) (fun n x => prodIn part n x.1 x.2 = some r') (fun x => x.2.isSome && decide ((part.length : Int) ≤ x.1.length)) ?_ ?_ ?_ 60 (r0, told) st
      · rintro n ⟨x, told⟩ hx B
        refine tr_and2 ?_ fun _ => tr_cmp (ev_ge (ev_len (ev_name rfl)) (ev_len (ev_name rfl)))
        cases told with
        | none => exact tr_cmp (ev_notnone_none (ev_name rfl))
        | some t => exact tr_cmp (ev_notnone_li (x := t) (ev_name rfl))
      · rintro n ⟨x, told⟩ hx hc
        have hc : (told.isSome && decide ((part.length : Int) ≤ x.length)) = true := hc
        obtain ⟨c1, c2⟩ := Bool.and_eq_true_iff.mp hc
        cases told with
        | none => cases c1
        | some t =>
          cases n with
          | zero => cases hx
          | succ n =>
            have hx : (if decide ((part.length : Int) ≤ x.length) then (match lawBy t part with | none => none | some o => prodIn part n t o) else some x) = some r' := hx
            rw [if_pos c2] at hx
            cases hb2 : lawBy t part with
            | none => rw [hb2] at hx; cases hx
            | some o =>
              rw [hb2] at hx
              refine run_assign (v := .li t) (fun B => ev_name rfl) ?_
              refine run_assign (fun B => ev_call (law_by_spec c t part o hb2) (hR.mono (by omega)) (evl_cons (ev_name rfl) (evl_cons (ev_name rfl) evl_nil))) ?_
              exact run_loopend ⟨n, (t, o), Nat.lt_succ_self _, hx, rfl⟩
      · rintro n ⟨x, told⟩ hx hc
        have hc : (told.isSome && decide ((part.length : Int) ≤ x.length)) = false := hc
        cases n with
        | zero => cases hx
        | succ n =>
          have e : x = r' := by
            cases told with
            | none => cases hx; rfl
            | some t =>
              have hx : (if decide ((part.length : Int) ≤ x.length) then (match lawBy t part with | none => none | some o => prodIn part n t o) else some x) = some r' := hx
              have hc : decide ((part.length : Int) ≤ x.length) = false := by simpa using hc
              rw [if_neg (by rw [hc]; exact Bool.false_ne_true)] at hx
              cases hx
              rfl
          subst e
          exact run_end
  · rw [List.length_map, stAt_end _ _ _ _ h]
    exact run_return retQ_ok fun B => ev_eq_li hR (ev_name rfl) (ev_list (l := [1]) (evl_cons ev_int evl_nil) (by unfold LenOk; simp))

theorem is_product_spec (c : Cx) (whole r : List Int) (h : foldO prodStep whole parts = some r) : Spec c (theFn 47) [.li whole] (.bool (decide (r = [1]))) 3 := is_product_specG c whole r parts ones rfl (parts_spec c) h

def partsL : List (List Int) := [[-1, 1], [1, 1], [1, 1, 1], [1, 0, 1], [1, 1, 1, 1, 1], [1, -1, 1], [1, 1, 1, 1, 1, 1, 1], [1, 0, 0, 0, 1], [1, 0, 0, 1, 0, 0, 1], [1, -1, 1, -1, 1], [1, 0, -1, 0, 1], [1, -1, 1, -1, 1, -1, 1], [1, 0, 0, -1, 0, 0, 1]]
theorem parts_eq : parts = partsL := by decide +kernel
theorem is_product_specL (c : Cx) (whole r : List Int) (h : foldO prodStep whole partsL = some r) : Spec c (theFn 47) [.li whole] (.bool (decide (r = [1]))) 3 := is_product_spec c whole r (parts_eq ▸ h)

/- the rest of law, behind the draws -/
def wholeStep (many : Nat) (s : Nat × List Int) (x : Int) : Option (Nat × List Int) :=
  match powF 20 [1] [1, 0, 1] s.1 with
  | none => none
  | some p => if decide (s.1 ≤ many) && smB x && decide (many + p.length ≤ 4096) then some (s.1 + 1, addP s.2 (scaleP (raiseP p (many - s.1)) x)) else none
def lawP (f : List Int) : Option Bool :=
  match foldO (wholeStep (f.length - 1)) (0, []) f with
  | none => none
  | some w =>
    if !(decide (f ≠ []) && decide (f.length ≤ 100)) then none else
    if !decide (trimP w.2.reverse = w.2) || (atP w.2 1 != atP f 2) || (atP w.2 (-1) != (-1) ^ (f.length - 1) * atP f (-2)) then some false else
    match rootsP f (-2) 1 2 1 with
    | none => none
    | some k =>
      match simpleP f with
      | none => none
      | some g =>
        match foldO prodStep w.2 partsL with
        | none => none
        | some r => some ((k + (if (atP f (-2) == 0) then 1 else 0) == (g.length : Int) - 1) == decide (r = [1]))
end Mine
namespace Mine

theorem whole_one {many : Nat} {x y : Nat × List Int} {e : Int} (st : wholeStep many x e = some y) : y.1 = x.1 + 1 := by
  unfold wholeStep at st
  cases hp : powF 20 [1] [1, 0, 1] x.1 with
  | none => rw [hp] at st; cases st
  | some p =>
    rw [hp] at st
    obtain ⟨_, st⟩ := some_of_if' st
    cases st
    rfl
theorem whole_count (many : Nat) (f : List Int) (w : Nat × List Int) (h : foldO (wholeStep many) (0, []) f = some w) : ∀ i, i ≤ f.length → (stAt (wholeStep many) (0, []) f i).1 = i
  | 0, _ => by rw [stAt_zero]
  | i + 1, hi => by
    have ih := whole_count many f w h i (by omega)
    have st := stAt_step (wholeStep many) f (0, []) w h i (f[i]'(by omega)) (List.getElem?_eq_getElem (by omega))
    rw [whole_one st, ih]
theorem sm_pow1 (n : Nat) : Sm ((-1 : Int) ^ n) := by
  unfold Sm
  rw [Int.natAbs_pow]
  simp

theorem law_rest (c : Cx) (pm code doc : Value) (L a : Addr) (A : Around) (s₀ : Shared) (B₀ : List Addr) (hR : Room A 9) (f : List Int) (r : Bool) (h : lawP f = some r) :
    Run c s₀ B₀ A (fenv (theFn 49) pm code doc L a) ⟨[("f", .li f)], none⟩ ((bodyOf (theFn 49)).drop 3) (RetQ s₀ B₀ (.bool r)) := by
  unfold lawP at h
  cases hw : foldO (wholeStep (f.length - 1)) (0, []) f with
  | none => rw [hw] at h; cases h
  | some w =>
  rw [hw] at h
  obtain ⟨o, h⟩ := some_of_if h
  obtain ⟨o1, o2⟩ := Bool.and_eq_true_iff.mp (by simpa using o : (decide (f ≠ []) && decide (f.length ≤ 100)) = true)
  have hne := List.length_pos_iff.mpr (of_decide_eq_true o1)
  have h100 := of_decide_eq_true o2
  refine run_swap2 (y1 := .int ((f.length : Int) - 1)) (y2 := .li []) hR.1 (fun B => evl_cons (ev_sub (ev_len (ev_name rfl)) ev_int) (evl_cons (ev_list (l := []) evl_nil (by unfold LenOk; simp)) evl_nil)) ?_
  refine run_for_enum (l := f) (fun i => ⟨[("whole", .li (stAt (wholeStep (f.length - 1)) (0, []) f i).2), ("many", .int ((f.length : Int) - 1)), ("f", .li f)], none⟩) hR.1 (fun B => ev_name rfl) (fun i x hx => ?_) ?_ (hw := by rw [stAt_zero]; exact ⟨rfl, rfl, rfl, trivial⟩)
  · have st := stAt_step (wholeStep (f.length - 1)) f (0, []) w hw i x hx
    have hi : i < f.length := (List.getElem?_eq_some_iff.mp hx).1
    have cnt := whole_count (f.length - 1) f w hw i (by omega)
    generalize stAt (wholeStep (f.length - 1)) (0, []) f (i + 1) = y at st ⊢
    generalize stAt (wholeStep (f.length - 1)) (0, []) f i = z at st cnt ⊢
    obtain ⟨zi, zl⟩ := z
    have cnt : zi = i := cnt
    subst cnt
    unfold wholeStep at st
    cases hp : powF 20 [1] [1, 0, 1] (zi : Int) with
    | none => rw [show powF 20 [1] [1, 0, 1] (((zi, zl) : Nat × List Int).1 : Int) = none from hp] at st; cases st
    | some p =>
      rw [show powF 20 [1] [1, 0, 1] (((zi, zl) : Nat × List Int).1 : Int) = some p from hp] at st
      obtain ⟨q, st⟩ := some_of_if' st
      obtain ⟨q, q3⟩ := Bool.and_eq_true_iff.mp q
      obtain ⟨q1, q2⟩ := Bool.and_eq_true_iff.mp q
      have q3 := of_decide_eq_true q3
      cases st
      refine run_assign (fun B => ev_call (zadd_spec c _ _) (hR.mono (by omega)) (evl_cons (ev_name rfl) (evl_cons (ev_call (zscale_spec c _ _ (smB_sm q2)) (hR.mono (by omega)) (evl_cons (ev_call (zraise_spec c p (f.length - 1 - zi) (by omega)) (hR.mono (by omega)) (evl_cons (ev_call (zpower_spec c [1, 0, 1] zi 20 p hp) (hR.mono (by omega)) (evl_cons (ev_list (l := [1, 0, 1]) (evl_cons ev_int (evl_cons ev_int (evl_cons ev_int evl_nil))) (by unfold LenOk; simp)) (evl_cons (ev_name rfl) evl_nil))) (evl_cons ?_ evl_nil))) (evl_cons (ev_name rfl) evl_nil))) evl_nil))) ?_
      · rw [show ((f.length - 1 - zi : Nat) : Int) = ((f.length : Int) - 1) - zi by omega]
        exact ev_sub (ev_name rfl) (ev_name rfl)
      · exact run_end
  · rw [stAt_end _ _ _ _ hw]
    generalize w.2 = whole at h ⊢
    have hm : okPow (-1) ((f.length : Int) - 1) = true := by
      unfold okPow
      rw [show smB (-1) = true from by decide +kernel, decide_eq_true (by omega : (0 : Int) ≤ (f.length : Int) - 1), decide_eq_true (by omega : (f.length : Int) - 1 ≤ 2 ^ 20)]
      rfl
    obtain ⟨p1, p2⟩ := okPow_ok hm
    have tn : ((f.length : Int) - 1).toNat = f.length - 1 := by omega
    have s1 : Sm 1 := by unfold Sm; decide
    have s2 : Sm 2 := by unfold Sm; decide
    have sm1 : Sm (-1) := by unfold Sm; decide
    have sm2 : Sm (-2) := by unfold Sm; decide
    refine run_ifa (b := !decide (trimP whole.reverse = whole) || (atP whole 1 != atP f 2) || (atP whole (-1) != (-1) ^ (f.length - 1) * atP f (-2))) (fun B => tr_or3 (tr_cmp (ev_ne_li hR (ev_call (zreversed_spec c whole) (hR.mono (by omega)) (evl_cons (ev_name rfl) evl_nil)) (ev_name rfl))) (fun _ => tr_cmp (ev_ne (ev_call (zat_spec c whole 1 s1) (hR.mono (by omega)) (evl_cons (ev_name rfl) (evl_cons ev_int evl_nil))) (ev_call (zat_spec c f 2 s2) (hR.mono (by omega)) (evl_cons (ev_name rfl) (evl_cons ev_int evl_nil))))) fun _ _ => tr_cmp (ev_ne (ev_call (zat_spec c whole (-1) sm1) (hR.mono (by omega)) (evl_cons (ev_name rfl) (evl_cons (ev_neg ev_int) evl_nil))) ?_)) (fun hz => ?_) fun hz => ?_
    · rw [← tn]
      exact ev_mul (ev_pow (ev_neg ev_int) (ev_name rfl) p1 p2) (ev_call (zat_spec c f (-2) sm2) (hR.mono (by omega)) (evl_cons (ev_name rfl) (evl_cons (ev_neg ev_int) evl_nil))) (sm_pow1 _).mul_left
    · rw [if_pos hz] at h
      cases h
      exact run_return retQ_ok fun B => ev_bool
    · rw [if_neg (by rw [hz]; exact Bool.false_ne_true)] at h
      cases hk : rootsP f (-2) 1 2 1 with
      | none => rw [hk] at h; cases h
      | some k =>
      rw [hk] at h
      cases hg : simpleP f with
      | none => rw [hg] at h; cases h
      | some g =>
      rw [hg] at h
      cases hr : foldO prodStep whole partsL with
      | none => rw [hr] at h; cases h
      | some r' =>
      rw [hr] at h
      cases h
      refine run_assign (fun B => ev_add (ev_call (count_roots_spec c f (-2) 1 2 1 k hk sm2 s1 s2 s1) hR (evl_cons (ev_name rfl) (evl_cons (ev_tuple (l := [-2, 1]) (evl_cons (ev_neg ev_int) (evl_cons ev_int evl_nil)) (by unfold LenOk; simp)) (evl_cons (ev_tuple (l := [2, 1]) (evl_cons ev_int (evl_cons ev_int evl_nil)) (by unfold LenOk; simp)) evl_nil)))) (ev_if_int (tr_cmp (ev_eq (ev_call (zat_spec c f (-2) sm2) (hR.mono (by omega)) (evl_cons (ev_name rfl) (evl_cons (ev_neg ev_int) evl_nil))) ev_int)) (fun _ => ev_int) fun _ => ev_int)) ?_
      exact run_return retQ_ok fun B => ev_eq_bool (ev_eq (ev_name rfl) (ev_call (zdegree_spec c g) (hR.mono (by omega)) (evl_cons (ev_call (simple_part_spec c f g hg) (hR.mono (by omega)) (evl_cons (ev_name rfl) evl_nil)) evl_nil))) (ev_call (is_product_specL c whole r' hr) (hR.mono (by omega)) (evl_cons (ev_name rfl) evl_nil))
end Mine
namespace Mine

/- a heap without one object -/
def wipe (h : Heap) (P : Addr) : Heap := h.update P fun o => { o with data := .freed }
theorem wipe_ne {h : Heap} {P b : Addr} (e : b ≠ P) : (wipe h P).get? b = h.get? b := Heap.get?_update_ne h b P _ e
theorem wipe_self {h : Heap} {P : Addr} : (wipe h P).get? P = none := by
  obtain ⟨objs, l⟩ := h
  show (match (objs.modify P fun o => { o with data := .freed })[P]? with | some ⟨_, _, .freed, _⟩ => none | o => o) = none
  rw [Array.getElem?_modify, if_pos rfl]
  cases objs[P]? <;> rfl
theorem wipe_size {h : Heap} {P : Addr} : (wipe h P).objs.size = h.objs.size := by
  obtain ⟨objs, l⟩ := h
  simp [wipe, Heap.update]
theorem wipe_get {h : Heap} {P b : Addr} {o : Obj} (e : (wipe h P).get? b = some o) : b ≠ P ∧ h.get? b = some o := by
  by_cases hb : b = P
  · rw [hb, wipe_self] at e; cases e
  · exact ⟨hb, (wipe_ne hb).symm.trans e⟩
section
variable {h : Heap} {P : Addr} {vs : Array Value}
theorem wipe_keep (hp : h.IsList P vs) {b : Addr} {o : Obj} (e : h.get? b = some o) (hne : ∀ ws n, o.data ≠ .seq ws n) : (wipe h P).get? b = some o := by
  have : b ≠ P := fun hb => by
    obtain ⟨o', ho, _, n, hd⟩ := hp
    rw [hb, ho] at e
    cases e
    exact hne _ _ hd
  rw [wipe_ne this]; exact e
theorem wipe_ns (hp : h.IsList P vs) {a : Addr} {m : Str → Option Value} (hn : h.Ns a m) : (wipe h P).Ns a m := by
  obtain ⟨o, es, ep, ho, hd, r⟩ := hn
  exact ⟨o, es, ep, wipe_keep hp ho (fun ws n e => by rw [hd] at e; cases e), hd, r⟩
theorem wipe_base {c : Cx} (hp : h.IsList P vs) (b : c.Base h) : c.Base (wipe h P) where
  g := wipe_ns hp b.g
  b := wipe_ns hp b.b
  lim := let ⟨mc, hn, e⟩ := b.lim; ⟨mc, wipe_ns hp hn, e⟩
  boot := b.boot
  free := b.free
  fn := fun i h1 h2 h3 => by
    obtain ⟨a, o, pm, code, doc, e1, e2, e3, c', o', vs', t, e4, e5, e6, e7⟩ := b.fn i h1 h2 h3
    exact ⟨a, o, pm, code, doc, e1, wipe_keep hp e2 (fun ws n e => by rw [e3] at e; cases e), e3, c', o', vs', t, e4, wipe_keep hp e5 (fun ws n e => by rw [e6] at e; cases e), e6, e7⟩
end

/- the pool's object turned, all else kept -/
def Turn (P : Addr) (s s' : Shared) : Prop := ∃ h t, s' = { s with heap := h, toks := t } ∧ ∀ b o, b ≠ P → s.heap.get? b = some o → h.get? b = some o
theorem Turn.get {P : Addr} {s s' : Shared} (x : Turn P s s') {b : Addr} {o : Obj} (hb : b ≠ P) (e : s.heap.get? b = some o) : s'.heap.get? b = some o := by
  obtain ⟨h, t, rfl, k⟩ := x
  exact k b o hb e
theorem Turn.off {P : Addr} {s s' : Shared} (x : Turn P s s') {B : List Addr} (hP : P ∈ B) : Off B s.heap s'.heap := fun b o hb e => x.get (fun e' => hb (e' ▸ hP)) e

/- what a def answers that draws -/
def SpecD (c : Cx) (st : Stmt) (args : List V) (r : V) (cells : List Int) (k k' : Int) (n : Nat) : Prop :=
  ∀ (A : Around) (B : List Addr) (s : Shared) (E Q : Value → Shared → Prop) (f P : Addr) (vals : List Value), c.mg (nameOf st) = some (.ref f) → Room A n → c.Base s.heap → P ∉ B → (∀ b ∈ B, ∃ o, s.heap.get? b = some o) → PoolAt s.heap (P :: B) cells k P →
    RepL s.heap (P :: B) args vals → (∀ val s', Turn P s s' → PoolAt s'.heap (P :: B) cells k' P → Rep s'.heap (P :: B) r val → Q val s') → wpAny (model c.prog c.w) A (call (.ref f) (.ref P :: vals)) Q E s

section
variable {c : Cx} {s₀ : Shared} {B₀ : List Addr} {A : Around} {env : Env} {d : D} {Q : Post} {rest : List Stmt} {pos p : Pos} {B : List Addr} {G : Addr → Option Obj} {s s' : Shared}

theorem Inv.turnD {ρ : Rho} {x : Str} {a : Addr} {v v' : V} (I : Inv c s₀ B₀ G env B ⟨ρ, some (x, a, v)⟩ s) (hs : Turn a s s') (hc : Cont s'.heap (bx env ⟨ρ, some (x, a, v)⟩ B) v' a) : Inv c s₀ B₀ G env B ⟨ρ, some (x, a, v')⟩ s' := by
  obtain ⟨m, cm, X, h1, h2⟩ := I.fr
  obtain ⟨q1, q2, q3, q4, q5⟩ := h2 x a v rfl
  have hab : a ∈ bx env ⟨ρ, some (x, a, v)⟩ B := List.mem_append.mpr (.inl (List.mem_cons_self ..))
  have off := hs.off hab
  have na : a ∉ env.locals :: env.cells.map (·.2) := fun hm => q3 (List.mem_append.mpr (.inl hm))
  have nL : env.locals ≠ a := fun e' => na (e' ▸ List.mem_cons_self ..)
  refine { ek := I.ek, eg := I.eg, eb := I.eb, base₀ := I.base₀, b0 := I.b0, lv := I.lv, lk := I.lk, gk := fun b o e => hs.get (fun e' => by rw [e', q4] at e; cases e) (I.gk b o e), gl := I.gl, gc := I.gc, fr := ⟨m, cm, ?_, fun n u e => ?_, fun n b u e => ?_⟩ }
  · obtain ⟨⟨⟨h, t, e⟩, hn, hkk, hf⟩, hcell, ha, hl⟩ := X
    refine ⟨⟨?_, hn.at' fun o e => hs.get nL e, fun b o e' => hs.get (fun e2 => by rw [e2, q5] at e'; cases e') (hkk b o e'), hf⟩, fun n q hq => ?_, ha, hl⟩
    · obtain ⟨h', t', e', _⟩ := hs
      exact ⟨h', t', by rw [e', e]⟩
    · obtain ⟨o, ho, hd⟩ := hcell n q hq
      exact ⟨o, hs.get (fun e' => na (e' ▸ List.mem_cons_of_mem _ (List.mem_map.mpr ⟨(n, q), mem_of_lookup hq, rfl⟩))) ho, hd⟩
  · obtain ⟨w, q, r⟩ := h1 n u e
    exact ⟨w, q, r.off off⟩
  · cases e
    exact ⟨q1, hc, q3, q4, q5⟩

/- an expression that draws -/
def EvD (c : Cx) (s₀ : Shared) (B₀ : List Addr) (A : Around) (env : Env) (ρ : Rho) (x : Str) (P : Addr) (cells : List Int) (k k' : Int) (e : Expr) (v : V) : Prop :=
  ∀ (G : Addr → Option Obj) (B : List Addr) (s : Shared) (E Q : Value → Shared → Prop), Inv c s₀ B₀ G env B ⟨ρ, some (x, P, .pool cells k)⟩ s →
    (∀ val s', Inv c s₀ B₀ G env B ⟨ρ, some (x, P, .pool cells k')⟩ s' → Rep s'.heap (bx env ⟨ρ, some (x, P, .pool cells k')⟩ B) v val → Off (bx env ⟨ρ, some (x, P, .pool cells k')⟩ B) s.heap s'.heap → Q val s') → wpAny (model c.prog c.w) A (eval e env) Q E s

variable {ρ : Rho} {x : Str} {P : Addr} {cells : List Int} {k k' k'' : Int}
theorem evd_of {e : Expr} {v : V} (h : ∀ B, Ev c A env ⟨ρ, some (x, P, .pool cells k)⟩ B e v) : EvD c s₀ B₀ A env ρ x P cells k k e v := by
  intro G B s E Q I hQ
  exact h _ s _ _ I.pre fun val s₁ k₁ r₁ => hQ val s₁ (I.keeps k₁) r₁ (Kp.off k₁ _)
theorem off_tr {B : List Addr} {h h' h'' : Heap} (a : Off B h h') (b : Off B h' h'') : Off B h h'' := fun x o hx e => b x o hx (a x o hx e)
theorem evd_bin {l r : Expr} {op : Operator} {a b y : Int} (h1 : EvD c s₀ B₀ A env ρ x P cells k k' l (.int a)) (h2 : EvD c s₀ B₀ A env ρ x P cells k' k'' r (.int b))
    (h : ∀ (s : Shared) (t u : Tok) (E Q : Value → Shared → Prop), Q (.int y s.toks) { s with toks := s.toks + 1 } → wpAny (model c.prog c.w) A (binaryOp op (.int a t) (.int b u)) Q E s) : EvD c s₀ B₀ A env ρ x P cells k k'' (.BinOp l op r p) (.int y) := by
  intro G B s E Q I hQ
  refine wpAny_BinOp (h1 G B s _ _ I fun va s₁ I₁ r₁ o₁ => h2 G B s₁ _ _ I₁ fun vb s₂ I₂ r₂ o₂ => ?_)
  obtain ⟨t, rfl⟩ := r₁
  obtain ⟨u, rfl⟩ := r₂
  have kk := Kp.tok s₂ (s₂.toks + 1)
  exact h s₂ t u _ _ (hQ _ _ (I₂.keeps kk) ⟨_, rfl⟩ (off_tr (off_tr o₁ o₂) (Kp.off kk _)))
theorem evd_call {y : Str} {q p2 : Pos} {es : List Expr} {vs : List V} {r : V} {n i : Nat} (hsp : SpecD c (theFn i) vs r cells k k' n) (hR : Room A n) (h : ∀ B, EvL c A env ⟨ρ, some (x, P, .pool cells k)⟩ B es vs) (hi : 3 ≤ i ∧ i < 60 := by decide) (hdef : ∃ n a b d r t sc ts bi p, theFn i = .FunctionDef n a b d r t sc ts bi p := by exact ⟨_, _, _, _, _, _, _, _, _, _, rfl⟩) (hn : nameOf (theFn i) = y := by rfl) (hkind : env.kindOf y = some .globalImplicit := by rfl)
    (hst : starEach (.Name x p2 :: es) env = (false, eval (.Name x p2) env) :: starEach es env := by rfl) (hd : (y == ("__debug__" : Str)) = false := by rfl) (hdx : (x == ("__debug__" : Str)) = false := by rfl) : EvD c s₀ B₀ A env ρ x P cells k k' (.Call (.Name y q) (.Name x p2 :: es) [] p) r := by
  intro G B s E Q I hQ
  have Pr := I.pre
  obtain ⟨f, o, pm, code, doc, e1, e2, e3, e4⟩ := Pr.base.fn i hi.1 hi.2 hdef
  have e1' : c.mg y = some (.ref f) := hn ▸ e1
  refine wpAny_Call_Name_kw (Name_function_global Pr.ek hkind (loadGlobal_global (by rw [Pr.eg]; exact Pr.base.g) e1' ?_) hd)
  rw [hst]
  refine callWith_function (o := o) (fd := docDef (nameOf (theFn i)) (argsOf (theFn i)) (bodyOf (theFn i)) (scopeOf (theFn i)) pm code doc) (evalArgs_plain ?_)
  refine spliced_cons (own_name Pr rfl hdx ?_)
  refine h _ s E _ p Pr fun vals s₁ k₁ r₁ => ⟨⟨Kp.get k₁ e2, e3⟩, ?_⟩
  have I₁ := I.keeps k₁
  obtain ⟨m, cm, X, h1, h2⟩ := I₁.fr
  obtain ⟨q1, q2, q3, q4, q5⟩ := h2 x P (.pool cells k) rfl
  refine hsp A (env.locals :: env.cells.map (·.2) ++ B) s₁ E Q f P vals e1 hR I₁.pre.base q3 (fun b hb => I₁.pre.live b (List.mem_append.mpr (.inr hb))) q2 r₁ fun val s₂ T hp r₂ => ?_
  exact hQ val s₂ (I₁.turnD T hp) r₂ (off_tr (Kp.off k₁ _) (T.off (List.mem_append.mpr (.inl (List.mem_cons_self ..)))))

theorem run_assignD {y : Str} {e : Expr} {v : V} (h : EvD c s₀ B₀ A env ρ x P cells k k' e v) (hr : Run c s₀ B₀ A env ⟨(y, v) :: ρ, some (x, P, .pool cells k')⟩ rest Q)
    (hk : KindOk env y := by first | exact .inl rfl | exact .inr ⟨rfl, _, rfl⟩) (hx : x ≠ y := by decide) (hs : swapsWith e (some (.Name y p)) pos.line env = pure false := by rfl) : Run c s₀ B₀ A env ⟨ρ, some (x, P, .pool cells k)⟩ (.Assign [.Name y p] e pos :: rest) Q := by
  intro G B s E I
  refine wpAny_execs_cons (wpAny_Assign_Name (h G B s _ _ I fun val s₁ I₁ r₁ _ => ?_) hs)
  exact I₁.store hk (fun n a u e => by cases e; exact hx) r₁ fun s₂ _ _ _ I₂ => hr G B s₂ E I₂
theorem run_swap2D {x1 x2 : Str} {p1 p2 pt pv : Pos} {j j' : Nat} {e1 e2 : Expr} {y1 y2 : V} (hh : A.handled = none) (h1 : EvD c s₀ B₀ A env ρ x P cells k k' e1 y1) (h2 : EvD c s₀ B₀ A env ρ x P cells k' k'' e2 y2) (hr : Run c s₀ B₀ A env ⟨(x1, y1) :: (x2, y2) :: ρ, some (x, P, .pool cells k'')⟩ rest Q) (k1 : KindOk env x1 := by first | exact .inl rfl | exact .inr ⟨rfl, _, rfl⟩) (k2 : KindOk env x2 := by first | exact .inl rfl | exact .inr ⟨rfl, _, rfl⟩) (hx1 : x ≠ x1 := by decide) (hx2 : x ≠ x2 := by decide)
    (hes : starEach [e1, e2] env = (false, eval e1 env) :: starEach [e2] env := by rfl) (hes2 : starEach [e2] env = (false, eval e2 env) :: starEach [] env := by rfl)
    (hs : swapsWithSole [.Tuple [.Name x1 p1, .Name x2 p2] j pt] (.Tuple [e1, e2] j' pv) pos.line env = pure false := by rfl) (hw : swappedStores [.Tuple [.Name x1 p1, .Name x2 p2] j pt] (.Tuple [e1, e2] j' pv) env = pure (some [x1, x2]) := by rfl) : Run c s₀ B₀ A env ⟨ρ, some (x, P, .pool cells k)⟩ (.Assign [.Tuple [.Name x1 p1, .Name x2 p2] j pt] (.Tuple [e1, e2] j' pv) pos :: rest) Q := by
  intro G B s E I
  refine wpAny_execs_cons (Assign_Tuple_swapped (Tuple_ ?_) hs hw)
  rw [hes, hes2]
  refine spliced_cons (h1 G B s _ _ I fun v1 s₁ I₁ r1 _ => spliced_cons (h2 G B s₁ _ _ I₁ fun v2 s₂ I₂ r2 o2 => spliced_nil ?_))
  refine tup_new (by simp) fun T s₃ k₃ ht => wpAny_unpackItems_tuple (items := #[v1, v2]) hh ht fun h₄ hx₄ => ?_
  have K := Kp.tr k₃ (extKp hx₄)
  show wpAny _ A (do holding [v1] (bindName env x2 v2); do holding [] (bindName env x1 v1); pure ()) _ _ _
  refine wpAny_bind (wpAny_holding (wpAny_bindName ((I₂.keeps K).store k2 (fun n a u e => by cases e; exact hx2) (r2.off (Kp.off K _)) fun s₅ _ off _ I₅ => ?_)))
  exact wpAny_bind (wpAny_holding (wpAny_bindName (I₅.store k1 (fun n a u e => by cases e; exact hx1) (((Rep.off r1 o2).off (Kp.off K _)).off off) fun s₆ _ _ _ I₆ => wpAny_pure (hr G B s₆ E I₆))))

theorem cmp_true {l r : Expr} {op : CmpOp} {Q : Bool → Shared → Prop} {E : Value → Shared → Prop} (key : wpAny (model c.prog c.w) A (eval (.Compare l [op] [r] p) env) (fun v s₁ => wpAny (model c.prog c.w) A (truthy v) Q E s₁) E s) (hm : behindInMarks op r = false := by with_unfolding_all rfl) : wpAny (model c.prog c.w) A (PySem.isTrue (.Compare l [op] [r] p) env (eval (.Compare l [op] [r] p) env)) Q E s := by
  intro Γ q hΓ
  have k := key Γ q hΓ
  rw [eval_Compare1, markedBehindIn_of_false hm] at k
  rw [isTrue_Compare1, markedBehindIn_of_false hm]
  simp only [Sem.wp_bind', Sem.wp_holding, Sem.wp_cmd_standAt, Sem.wp_operate] at k ⊢
  exact Sem.wp_mono _ Γ _ (fun a p₁ s₁ h₁ => Sem.wp_mono _ Γ _ (fun b _ s₂ h₂ => Sem.wp_mono _ Γ _ (fun c p₃ s₃ h₃ => h₃ Γ p₃ hΓ) (fun _ _ _ h' => h') _ _ h₂) (fun _ _ _ h' => h') _ _ h₁) (fun _ _ _ h' => h') _ _ k
/- if e == i: e draws -/
theorem run_ifD {l r : Expr} {body orelse : List Stmt} {a b : Int} (h1 : EvD c s₀ B₀ A env ρ x P cells k k' l (.int a)) (h2 : ∀ B, Ev c A env ⟨ρ, some (x, P, .pool cells k')⟩ B r (.int b))
    (ht : (a == b) = true → Run c s₀ B₀ A env ⟨ρ, some (x, P, .pool cells k')⟩ (body ++ rest) Q) (hf : (a == b) = false → Run c s₀ B₀ A env ⟨ρ, some (x, P, .pool cells k')⟩ (orelse ++ rest) Q) (hm : behindInMarks .Eq r = false := by with_unfolding_all rfl) : Run c s₀ B₀ A env ⟨ρ, some (x, P, .pool cells k)⟩ (.If (.Compare l [.Eq] [r] p) body orelse pos :: rest) Q := by
  intro G B s E I
  have e : execs (.If (.Compare l [.Eq] [r] p) body orelse pos :: rest) env = (standAt pos >>= fun _ => PySem.isTrue (.Compare l [.Eq] [r] p) env (eval (.Compare l [.Eq] [r] p) env) >>= fun t => if t = true then execs (body ++ rest) env else execs (orelse ++ rest) env) := by
    rw [execs_cons, exec_If, bind_assoc]
    congr 1
    funext _
    rw [bind_assoc]
    congr 1
    funext t
    cases t with
    | true => rw [if_pos rfl, if_pos rfl, execs_append]; congr 1
    | false => rw [if_neg Bool.false_ne_true, if_neg Bool.false_ne_true, execs_append]; congr 1
  rw [e]
  refine wpAny_bind (wpAny_standAt (wpAny_bind (cmp_true (wpAny_Compare1 (h1 G B s _ _ I fun va s₁ I₁ r₁ _ => h2 _ s₁ _ _ I₁.pre fun vb s₂ k₂ r₂ => ?_) hm) hm)))
  obtain ⟨t, rfl⟩ := r₁
  obtain ⟨u, rfl⟩ := r₂
  refine PyProof.Rows.eq_int ?_
  have I₂ := I₁.keeps k₂
  refine wpAny_truthy_bool ?_
  cases hab : (a == b) with
  | true =>
    have : a = b := by simpa using hab
    subst this
    simp only [decide_true, if_true]
    exact ht hab G B s₂ E I₂
  | false =>
    have : a ≠ b := by simpa using hab
    simp [this]
    exact hf hab G B s₂ E I₂
end
end Mine
namespace Mine

def RetD (s₀ : Shared) (B : List Addr) (P : Addr) (r : V) (cells : List Int) (k : Int) : Post := fun _ _ f s' => Keeps s₀ s' ∧ PoolAt s'.heap (P :: B) cells k P ∧ Rep s'.heap (P :: B) r (match f with | .ret v => v | _ => .none)

section
variable {c : Cx} {s₀ : Shared} {B₀ : List Addr} {A : Around} {env : Env} {d : D} {Q : Post} {rest : List Stmt} {pos p : Pos} {B : List Addr} {G : Addr → Option Obj} {s s' : Shared}
variable {ρ : Rho} {x : Str} {P : Addr} {cells : List Int} {k k' : Int}

theorem run_returnD {e : Expr} {v : V} (h : ∀ B, Ev c A env ⟨ρ, some (x, P, .pool cells k)⟩ B e v) : Run c s₀ B₀ A env ⟨ρ, some (x, P, .pool cells k)⟩ (.Return (some e) pos :: rest) (RetD s₀ B₀ P v cells k) := by
  intro G B s E I
  refine wpAny_execs_cons (wpAny_Return_some (h _ s _ _ I.pre fun val s₁ k₁ r₁ => ?_))
  have sub : ∀ b ∈ P :: B₀, b ∈ bx env ⟨ρ, some (x, P, .pool cells k)⟩ B := fun b hb => by
    rcases List.mem_cons.mp hb with rfl | hb
    · exact List.mem_append.mpr (.inl (List.mem_cons_self ..))
    · exact List.mem_append.mpr (.inr (List.mem_append.mpr (.inr (I.b0 b hb))))
  have hp : PoolAt s₁.heap (bx env ⟨ρ, some (x, P, .pool cells k)⟩ B) cells k P := ((I.keeps k₁).pre.ow x P _ rfl).2
  exact ⟨Kp.tr I.same k₁, hp.move (fun _ e => e) (fun _ _ y => y.sub sub), r₁.sub sub⟩

/- pool[1], pool[0] -/
theorem ev_pool1 {i : Expr} {q : Pos} (h2 : Ev c A env ⟨ρ, some (x, P, .pool cells k)⟩ B i (.int 1)) (hd : (x == ("__debug__" : Str)) = false := by rfl) (hs : SubInt i := by intro _ _ _; with_unfolding_all rfl) : Ev c A env ⟨ρ, some (x, P, .pool cells k)⟩ B (.Subscript (.Name x q) i p) (.int k) := by
  intro s E Q Pr hQ
  refine Subscript_ (own_name Pr rfl hd (h2 s _ _ Pr fun vb s₂ k₂ r₂ => ?_))
  obtain ⟨u, rfl⟩ := r₂
  obtain ⟨_, a, t, hp, hi⟩ := (Pr.keeps k₂).ow x P _ rfl
  exact tail_any hp.typeIs slot_list_getitem.lookup (wpAny_getItem_list hp (by omega) (by omega) rfl (hQ _ _ k₂ ⟨t, rfl⟩)) (hs _ _ _)
theorem ev_pool0 {i : Expr} {q : Pos} (h2 : Ev c A env ⟨ρ, some (x, P, .pool cells k)⟩ B i (.int 0)) (hd : (x == ("__debug__" : Str)) = false := by rfl) (hs : SubInt i := by intro _ _ _; with_unfolding_all rfl) : Ev c A env ⟨ρ, some (x, P, .pool cells k)⟩ B (.Subscript (.Name x q) i p) (.li cells) := by
  intro s E Q Pr hQ
  refine Subscript_ (own_name Pr rfl hd (h2 s _ _ Pr fun vb s₂ k₂ r₂ => ?_))
  obtain ⟨u, rfl⟩ := r₂
  obtain ⟨_, a, t, hp, hi⟩ := (Pr.keeps k₂).ow x P _ rfl
  exact tail_any hp.typeIs slot_list_getitem.lookup (wpAny_getItem_list hp (by omega) (by omega) rfl (hQ _ _ k₂ ⟨a, rfl, hi⟩)) (hs _ _ _)
/- pool[1] = e -/
theorem run_setpool {px pt : Pos} {i e : Expr} {y : Int} (he : ∀ B, Ev c A env ⟨ρ, some (x, P, .pool cells k)⟩ B e (.int y)) (hi : ∀ B, Ev c A env ⟨ρ, some (x, P, .pool cells k)⟩ B i (.int 1)) (hr : Run c s₀ B₀ A env ⟨ρ, some (x, P, .pool cells y)⟩ rest Q) (hd : (x == ("__debug__" : Str)) = false := by rfl)
    (hs : swapsWith e (some (.Subscript (.Name x px) i pt)) pos.line env = pure false := by rfl) : Run c s₀ B₀ A env ⟨ρ, some (x, P, .pool cells k)⟩ (.Assign [.Subscript (.Name x px) i pt] e pos :: rest) Q := by
  intro G B s E I
  refine wpAny_execs_cons (wpAny_Assign_Subscript (he _ s _ _ I.pre fun v s₁ k₁ r₁ => own_name (I.keeps k₁).pre rfl hd (hi _ s₁ _ _ (I.keeps k₁).pre fun w s₂ k₂ r₂ => ?_)) hs)
  obtain ⟨t, rfl⟩ := r₁
  obtain ⟨u, rfl⟩ := r₂
  have I₂ := (I.keeps k₁).keeps k₂
  obtain ⟨_, q, t', hp, hq⟩ := I₂.pre.ow x P _ rfl
  refine wpAny_setItem_list hp (by omega) (by omega) (by show (1 : Int) < ((2 : Nat) : Int); omega) fun h' hp' hs' => hr G B _ E (I₂.turnOwn hs' ⟨q, t, hp', ?_⟩)
  have hab : P ∈ bx env ⟨ρ, some (x, P, .pool cells k)⟩ B := List.mem_append.mpr (.inl (List.mem_cons_self ..))
  have off : Off (bx env ⟨ρ, some (x, P, .pool cells k)⟩ B) s₂.heap h' := fun b o hb e => hs'.extBut b o (fun e' => hb (e' ▸ hab)) e
  exact hq.off off
end

theorem bindArgs_len {names : List Str} {vals : List Value} {x0 : Str} {P : Addr} : (x0 :: names).zip (.ref P :: vals) = (x0, .ref P) :: names.zip vals := rfl
theorem spec_introD {c : Cx} {i n : Nat} {args : List V} {r : V} {cells : List Int} {k k' : Int} (x0 : Str) (names : List Str)
    (h : ∀ (pm code doc : Value) (L a : Addr) (A : Around) (s₀ : Shared) (B : List Addr) (P : Addr), Room A n → Run c s₀ B A (fenv (theFn i) pm code doc L a) ⟨names.zip args, some (x0, P, .pool cells k)⟩ (bodyOf (theFn i)) (RetD s₀ B P r cells k'))
    (hi : 3 ≤ i ∧ i < 60 := by decide) (hdef : ∃ n a b d r t sc ts bi p, theFn i = .FunctionDef n a b d r t sc ts bi p := by exact ⟨_, _, _, _, _, _, _, _, _, _, rfl⟩)
    (hbind : ∀ pm code doc (P : Addr) (vals : List Value), vals.length = args.length → bindArgs (docDef (nameOf (theFn i)) (argsOf (theFn i)) (bodyOf (theFn i)) (scopeOf (theFn i)) pm code doc) ⟨.ref P :: vals, []⟩ = pure ((x0 :: names).zip (.ref P :: vals)) := by
      intro pm code doc P vals h
      first
        | (match vals, h with | [], _ => rfl)
        | (match vals, h with | [a], _ => rfl)
        | (match vals, h with | [a, b], _ => rfl))
    (hnames : ((x0 :: names).all fun y => (scopeOf (theFn i)).names.lookup y == some .local || (scopeOf (theFn i)).names.lookup y == some .cell) = true := by decide +kernel) (hnd : (x0 :: names).Nodup := by decide) (hcn : ((cellsFrom 0 (scopeOf (theFn i)).names []).map (·.1)).Nodup := by decide +kernel)
    (hco : (scopeOf (theFn i)).isCoroutine = false := by rfl) (hgen : (scopeOf (theFn i)).isGenerator = false := by rfl) (hk : (scopeOf (theFn i)).kind = .function := by rfl) : SpecD c (theFn i) args r cells k k' (n + 1) := by
  intro A B s E Q f P vals hf hR hB hPB hlv hpool hr hQ
  obtain ⟨f', o, pm, code, doc, e1, e2, e3, e4⟩ := hB.fn i hi.1 hi.2 hdef
  have : f' = f := by rw [hf] at e1; cases e1; rfl
  subst this
  obtain ⟨pq, pt, hpl, hpi⟩ := id hpool
  have hlk0 : ∀ y ∈ (x0 :: names), (scopeOf (theFn i)).names.lookup y = some .local ∨ (scopeOf (theFn i)).names.lookup y = some .cell := fun y hy => by
    rcases Bool.or_eq_true_iff.mp (List.all_eq_true.mp hnames y hy) with q | q
    · exact .inl (by simpa using q)
    · exact .inr (by simpa using q)
  refine wpAny_call (codeAny_call_cells (fd := docDef (nameOf (theFn i)) (argsOf (theFn i)) (bodyOf (theFn i)) (scopeOf (theFn i)) pm code doc) (body := bodyOf (theFn i)) (by have := hR.2.1; omega) e2 e3 hB.lim e4 rfl (hbind pm code doc P vals (repl_length hr)) rfl ?_ (fun s₁ X => ?_) hco hgen hk)
  · refine kindsX (List.all_eq_true.mpr fun x hx => ?_) _
    obtain ⟨l, hl⟩ := zip_keys (x0 :: names) (.ref P :: vals)
    exact List.all_eq_true.mp hnames x.1 (hl ▸ List.mem_append.mpr (.inl (List.mem_map_of_mem hx)))
  · have hnd' : (((x0 :: names).zip (.ref P :: vals)).map (·.1)).Nodup := by
      obtain ⟨l, hl⟩ := zip_keys (x0 :: names) (.ref P :: vals)
      rw [← hl] at hnd
      exact (List.nodup_append.mp hnd).1
    have x0n : x0 ∉ names := (List.nodup_cons.mp hnd).1
    have dead : ∀ a, s.heap.objs.size ≤ a → s.heap.get? a = none := fun a ha => by
      cases e : s.heap.get? a with
      | none => rfl
      | some o' => exact absurd (Heap.lt_size e) (Nat.not_lt.mpr ha)
    have liveP : ∃ o, s.heap.get? P = some o := hpool.live
    have hlk : ∀ n k, (n, k) ∈ cellsFrom (s.heap.objs.size + 1) (scopeOf (theFn i)).names [] → (cellsFrom (s.heap.objs.size + 1) (scopeOf (theFn i)).names []).lookup n = some k := fun n k hm =>
      lookup_of_mem (by rw [cells_keys _ _ 0 _ [] rfl]; exact hcn) hm
    have hasN : ∀ y val, y ∈ (x0 :: names) → ((x0 :: names).zip (.ref P :: vals)).lookup y = some val → Has (fenv (theFn i) pm code doc s.heap.objs.size f') (bindL (fun y => (scopeOf (theFn i)).names.lookup y) ((x0 :: names).zip (.ref P :: vals)) fun _ => none) (bindC (fun y => (scopeOf (theFn i)).names.lookup y) ((x0 :: names).zip (.ref P :: vals)) fun _ => none) y val := fun y val hy hv => by
      rcases hlk0 y hy with q' | q'
      · exact .inl ⟨q', bindL_in _ q' hnd' hv⟩
      · exact .inr ⟨q', Option.isSome_iff_exists.mp (cellsFrom_some _ _ _ (.inl q')), bindC_in _ q' hnd' hv⟩
    have hk1 : Keeps s s₁ := by
      obtain ⟨⟨⟨h, t, e⟩, hn, hkk, hf⟩, _⟩ := X
      subst e
      exact ⟨h, t, rfl, hkk⟩
    have hwr : ∀ b ∈ s.heap.objs.size :: (cellsFrom (s.heap.objs.size + 1) (scopeOf (theFn i)).names []).map (·.2), s.heap.get? b = none := fun b hb => by
      rcases List.mem_cons.mp hb with rfl | hb
      · exact dead _ (Nat.le_refl _)
      · obtain ⟨⟨n, k⟩, hm, rfl⟩ := List.mem_map.mp hb
        exact dead _ (Nat.le_of_lt (X.above n k hm))
    have mem : ∀ b, b ∈ bx (fenv (theFn i) pm code doc s.heap.objs.size f') ⟨names.zip args, some (x0, P, .pool cells k)⟩ B → b ∈ (s.heap.objs.size :: (cellsFrom (s.heap.objs.size + 1) (scopeOf (theFn i)).names []).map (·.2)) ++ (P :: B) := fun b hb => by
      rcases List.mem_append.mp hb with hb | hb
      · rw [List.mem_singleton.mp hb]
        exact List.mem_append.mpr (.inr (List.mem_cons_self ..))
      · rcases List.mem_append.mp hb with hb | hb
        · exact List.mem_append.mpr (.inl hb)
        · exact List.mem_append.mpr (.inr (List.mem_cons_of_mem _ hb))
    have X' : InCallC { s with heap := wipe s.heap P } s.heap.objs.size (bindL (fun y => (scopeOf (theFn i)).names.lookup y) ((x0 :: names).zip (.ref P :: vals)) fun _ => none) (cellsFrom (s.heap.objs.size + 1) (scopeOf (theFn i)).names []) (bindC (fun y => (scopeOf (theFn i)).names.lookup y) ((x0 :: names).zip (.ref P :: vals)) fun _ => none) s₁ := by
      obtain ⟨⟨⟨h, t, e⟩, hn, hkk, hf⟩, hc, ha, hl⟩ := X
      exact ⟨⟨⟨h, t, e⟩, hn, fun b o e => hkk b o (wipe_get e).2, by show (wipe s.heap P).objs.size ≤ _; rw [wipe_size]; exact hf⟩, hc, ha, hl⟩
    have I : Inv c { s with heap := wipe s.heap P } B (fun b => (wipe s.heap P).get? b) (fenv (theFn i) pm code doc s.heap.objs.size f') B ⟨names.zip args, some (x0, P, .pool cells k)⟩ s₁ := by
      refine { ek := hk, eg := rfl, eb := rfl, base₀ := wipe_base hpl hB, b0 := fun _ h => h, lv := fun b hb => ?_, lk := hlk, gk := fun b o e => Kp.get hk1 (wipe_get e).2, gl := ?_, gc := fun n k hm => ?_, fr := ⟨_, _, X', fun x v e => ?_, fun y a v e => ?_⟩ }
      · obtain ⟨o, e⟩ := hlv b hb
        exact ⟨o, (wipe_ne fun (e' : b = P) => hPB (e' ▸ hb)).trans e⟩
      · cases e : (wipe s.heap P).get? s.heap.objs.size with
        | none => first | exact e | rfl
        | some o => have := (wipe_get e).2; rw [dead _ (Nat.le_refl _)] at this; cases this
      · cases e : (wipe s.heap P).get? k with
        | none => first | exact e | rfl
        | some o => have := (wipe_get e).2; rw [dead _ (Nat.le_of_lt (X.above n k hm))] at this; cases this
      · obtain ⟨val, hv, hrep⟩ := zip_has hr e
        refine ⟨val, ?_, ?_⟩
        · have hx : x ∈ names := by
            obtain ⟨l, hl⟩ := zip_keys names vals
            exact hl ▸ List.mem_append.mpr (.inl (List.mem_map.mpr ⟨(x, val), mem_of_lookup hv, rfl⟩))
          refine hasN x val (List.mem_cons_of_mem _ hx) ?_
          show ((x0, Value.ref P) :: names.zip vals).lookup x = some val
          rw [List.lookup_cons, beq_eq_false_iff_ne.mpr (fun (e : x = x0) => x0n (e ▸ hx))]
          exact hv
        · exact ((Rep.wide hwr hrep).sub mem).off (Kp.off hk1 _)
      · cases e
        refine ⟨hasN x0 _ (List.mem_cons_self ..) ?_, ?_, fun hm => ?_, wipe_self, wipe_self⟩
        · show ((x0, Value.ref P) :: names.zip vals).lookup x0 = some _
          rw [List.lookup_cons, beq_self_eq_true]
        · have w : Cont s.heap ((s.heap.objs.size :: (cellsFrom (s.heap.objs.size + 1) (scopeOf (theFn i)).names []).map (·.2)) ++ (P :: B)) (.pool cells k) P := Cont.wide hwr hpool
          exact (Cont.sub w mem).keeps fun _ _ e => Kp.get hk1 e
        · rcases List.mem_append.mp hm with hm | hm
          · obtain ⟨o, e⟩ := liveP
            have hm' : P ∈ s.heap.objs.size :: (cellsFrom (s.heap.objs.size + 1) (scopeOf (theFn i)).names []).map (·.2) := hm
            rw [hwr _ hm'] at e; cases e
          · exact hPB hm
    refine wpAny_mono (h pm code doc s.heap.objs.size f' _ _ B P (Room.deeper hR _) _ _ s₁ _ I) (fun fl s' hq => hQ _ s' ?_ hq.2.1 hq.2.2) fun _ _ e => e
    obtain ⟨h', t', e', kk⟩ := hq.1
    exact ⟨h', t', e', fun b o hb e => kk b o ((wipe_ne hb).trans e)⟩
end Mine
namespace Mine

def spare : List Int := [1, 5, 4, 2, 3, 3]
def drawV (cells : List Int) (j : Nat) (m : Int) : Int := if decide ((j : Int) < cells.length) then ((cells.getD j 0).natAbs : Int).fmod m else (spare.getD ((j : Int).fmod 6).toNat 0).fmod m
theorem drawV_range (cells : List Int) (j : Nat) {m : Int} (hm : 0 < m) : 0 ≤ drawV cells j m ∧ drawV cells j m < m := by
  unfold drawV
  split
  · exact ⟨Int.fmod_nonneg_of_pos _ hm, Int.fmod_lt_of_pos _ hm⟩
  · exact ⟨Int.fmod_nonneg_of_pos _ hm, Int.fmod_lt_of_pos _ hm⟩
set_option maxHeartbeats 4000000 in
theorem law_draw_spec (c : Cx) (cells : List Int) (j : Nat) (m : Int) (hm : m ≠ 0) : SpecD c (theFn 44) [.int m] (.int (drawV cells j m)) cells j ((j : Int) + 1) 1 := by
  refine spec_introD (n := 0) "pool" ["many"] fun pm code doc L f A s₀ B P hR => ?_
  refine run_assign (fun B => ev_pool1 ev_int) ?_
  refine run_setpool (fun B => ev_add (ev_name rfl) ev_int) (fun B => ev_int) ?_
  refine run_ifa (b := decide ((j : Int) < cells.length)) (fun B => tr_cmp (ev_lt (ev_name rfl) (ev_len (ev_pool0 ev_int)))) (fun hz => ?_) fun hz => ?_
  · unfold drawV
    rw [if_pos hz]
    have := of_decide_eq_true hz
    exact run_returnD fun B => ev_mod (ev_abs (ev_item (ev_pool0 ev_int) (ev_name rfl) (by omega) (by rw [Int.toNat_natCast]; exact getD_get (by omega)))) (ev_name rfl) hm
  · unfold drawV
    rw [if_neg (by rw [hz]; exact Bool.false_ne_true)]
    have h1 := Int.fmod_nonneg_of_pos (j : Int) (b := 6) (by decide)
    have h2 := Int.fmod_lt_of_pos (j : Int) (b := 6) (by decide)
    have tp : ∀ (ww : List Int) (hw : LenOk ww.length) env d B es k p, EvL c A env d B es (ww.map V.int) → Ev c A env d B (.Tuple es k p) (.ti ww) := fun ww hw env d B es k p h => ev_tuple h hw
    have hx : spare[((j : Int).fmod 6).toNat]? = some (spare.getD ((j : Int).fmod 6).toNat 0) := getD_get (by unfold spare; simp only [List.length_cons, List.length_nil]; omega)
    have hw : LenOk spare.length := by unfold LenOk spare; simp
    generalize hsp : spare = sp at hx hw ⊢
    refine run_returnD fun B => ev_mod (ev_itemti (l := sp) (tp sp hw _ _ _ _ _ _ ?_) (ev_mod (ev_name rfl) ev_int (by decide)) h1 hx) (ev_name rfl) hm
    rw [← hsp]
    show EvL _ _ _ _ _ _ [.int 1, .int 5, .int 4, .int 2, .int 3, .int 3]
    clear hsp hx hw tp h1 h2 hz
    refine evl_int ?_
    refine evl_int ?_
    refine evl_int ?_
    refine evl_int ?_
    refine evl_int ?_
    refine evl_int ?_
    exact evl_nil

section
variable {c : Cx} {s₀ : Shared} {B₀ : List Addr} {A : Around} {env : Env} {d : D} {B : List Addr} {p q : Pos} {ρ : Rho} {x : Str} {P : Addr} {cells : List Int} {k k' : Int}
theorem evd_itemtl {e i : Expr} {ls : List (List Int)} {n : Int} {y : List Int} (h1 : ∀ B, Ev c A env ⟨ρ, some (x, P, .pool cells k)⟩ B e (.tl ls)) (h2 : EvD c s₀ B₀ A env ρ x P cells k k' i (.int n)) (h0 : 0 ≤ n) (hx : ls[n.toNat]? = some y) (hs : SubInt i := by intro _ _ _; with_unfolding_all rfl) :
    EvD c s₀ B₀ A env ρ x P cells k k' (.Subscript e i p) (.li y) := by
  intro G B s E Q I hQ
  refine Subscript_ (h1 _ s _ _ I.pre fun va s₁ k₁ r₁ => h2 G B s₁ _ _ (I.keeps k₁) fun vb s₂ I₂ r₂ o₂ => ?_)
  obtain ⟨a, rfl, _, hl, vs, hp, hi⟩ := Rep.off r₁ o₂
  obtain ⟨u, rfl⟩ := r₂
  obtain ⟨t, ht, hr⟩ := rows_get hi hx
  have hlt : n.toNat < ls.length := (List.getElem?_eq_some_iff.mp hx).1
  have := hl.fit
  have e1 := hi.length
  have hj : seqIndex? n vs.toList.length = some n.toNat := seqIndex_of_nonneg (n := vs.toList.length) h0 (by omega)
  exact item_tupleT (l := vs.toList) (by simpa using hp) (by omega) (by omega) hj ht (hQ _ _ I₂ ⟨_, rfl, hr⟩ (off_tr (Kp.off k₁ _) o₂)) (hs _ _ _)
theorem star_list (es : List Expr) (p : Pos) (r : List Expr) (env : Env) : starEach (.List es p :: r) env = (false, eval (.List es p) env) :: starEach r env := rfl
theorem star_neg (o : UnaryOp) (e : Expr) (p : Pos) (r : List Expr) (env : Env) : starEach (.UnaryOp o e p :: r) env = (false, eval (.UnaryOp o e p) env) :: starEach r env := rfl
theorem evl_neg {es : List Expr} {vs : List V} {i : Int} {k : Nat} (h : EvL c A env d B es vs) : EvL c A env d B (.UnaryOp .USub (.Constant (.int i) k p) q :: es) (.int (-i) :: vs) := evl_cons (ev_neg ev_int) h (star_neg _ _ _ _ _)
theorem evl_li {es' es : List Expr} {l : List Int} {vs : List V} (h' : EvL c A env d B es' (l.map V.int)) (hl : LenOk l.length) (h : EvL c A env d B es vs) : EvL c A env d B (.List es' p :: es) (.li l :: vs) := evl_cons (ev_list h' hl) h (star_list _ _ _ _)
end

def linesL : List (List Int) := [[-2, 1], [2, 1], [1, 1], [0, 1], [-1, 1]]
def othersL : List (List Int) := [[1, -3, 0, 1], [-1, -3, 0, 1], [-1, -2, 1, 1], [1, -2, -1, 1], [-2, 0, 1], [-1, 1, 1], [-1, -1, 1], [-3, 0, 1]]
def known1 (first line : List Int) : List Int := if ((first.length : Int) == 3) then mulP first line else first
def knownP (first line : List Int) (t : Int) : List Int := if (t == 0) then [(known1 first line).getD 0 0 + 1] ++ (known1 first line).drop 1 else known1 first line
def okKnown (first line : List Int) : Bool := okMul first line && decide (0 < (known1 first line).length) && decide ((known1 first line).length ≤ 100)

theorem known_end (c : Cx) (pm code doc : Value) (L f : Addr) (A : Around) (s₀ : Shared) (B₀ : List Addr) (P : Addr) (hR : Room A 2) (cells : List Int) (j : Nat) (g : List Int) (hg : 0 < g.length) (h100 : g.length ≤ 100) :
    Run c s₀ B₀ A (fenv (theFn 48) pm code doc L f) ⟨[("first", .li g)], some ("pool", P, .pool cells j)⟩ ((bodyOf (theFn 48)).drop 4) (RetD s₀ B₀ P (.li (if (drawV cells j 3 == 0) then [g.getD 0 0 + 1] ++ g.drop 1 else g)) cells ((j : Int) + 1)) := by
  refine run_ifD (evd_call (law_draw_spec c cells j 3 (by decide)) (hR.mono (by omega)) (fun B => evl_cons ev_int evl_nil)) (fun B => ev_int) (fun hz => ?_) fun hz => ?_
  · rw [if_pos hz]
    refine run_assign (v := .li ([g.getD 0 0 + 1] ++ g.drop 1)) (fun B => ev_cat (ev_list (l := [g.getD 0 0 + 1]) (evl_cons (ev_add (ev_item (x := g.getD 0 0) (ev_name rfl) ev_int (by omega) (getD_get (by omega))) ev_int) evl_nil) (by unfold LenOk; simp)) (ev_from (k := 1) (ev_name rfl) ev_int (by omega)) (by unfold LenOk; simp; omega)) ?_
    exact run_returnD fun B => ev_name rfl
  · rw [if_neg (by rw [hz]; exact Bool.false_ne_true)]
    exact run_returnD fun B => ev_name rfl

set_option maxHeartbeats 8000000 in
theorem law_known_spec (c : Cx) (cells : List Int) (j : Nat) (first line : List Int) (hf : othersL[(drawV cells j 8).toNat]? = some first) (hl : linesL[(drawV cells (j + 1) 5).toNat]? = some line) (ho : okKnown first line = true) : SpecD c (theFn 48) [] (.li (knownP first line (drawV cells (j + 2) 3))) cells j ((j : Int) + 3) 3 := by
  refine spec_introD (n := 2) "pool" [] fun pm code doc L f A s₀ B P hR => ?_
  obtain ⟨o, o3⟩ := Bool.and_eq_true_iff.mp ho
  obtain ⟨o1, o2⟩ := Bool.and_eq_true_iff.mp o
  have o2 := of_decide_eq_true o2
  have o3 := of_decide_eq_true o3
  have tp : ∀ (ww : List (List Int)) (hw : LenOk ww.length) env d B es k p, EvL c A env d B es (ww.map V.li) → Ev c A env d B (.Tuple es k p) (.tl ww) := fun ww hw env d B es k p h => ev_tuplell h hw
  refine run_assign (v := .tl linesL) (fun B => tp linesL (by unfold LenOk linesL; simp) _ _ _ _ _ _ ?_) ?_
  · unfold linesL
    show EvL _ _ _ _ _ _ [.li [-2, 1], .li [2, 1], .li [1, 1], .li [0, 1], .li [-1, 1]]
    clear tp
    repeat (refine evl_li (by repeat (first | exact evl_nil | refine evl_int ?_ | refine evl_neg ?_)) (by unfold LenOk; simp) ?_)
    exact evl_nil
  refine run_assign (v := .tl othersL) (fun B => tp othersL (by unfold LenOk othersL; simp) _ _ _ _ _ _ ?_) ?_
  · unfold othersL
    show EvL _ _ _ _ _ _ [.li [1, -3, 0, 1], .li [-1, -3, 0, 1], .li [-1, -2, 1, 1], .li [1, -2, -1, 1], .li [-2, 0, 1], .li [-1, 1, 1], .li [-1, -1, 1], .li [-3, 0, 1]]
    clear tp
    repeat (refine evl_li (by repeat (first | exact evl_nil | refine evl_int ?_ | refine evl_neg ?_)) (by unfold LenOk; simp) ?_)
    exact evl_nil
  have d1 := law_draw_spec c cells (j + 1) 5 (by decide)
  have d2 := known_end c pm code doc L f A s₀ B P hR cells (j + 2) (known1 first line) o2 o3
  rw [show (((j + 1 : Nat)) : Int) = (j : Int) + 1 by omega] at d1
  rw [show (((j + 2 : Nat)) : Int) = (j : Int) + 1 + 1 by omega] at d2
  rw [show (j : Int) + 3 = (j : Int) + 1 + 1 + 1 by omega]
  refine run_swap2D hR.1 (evd_itemtl (fun B => ev_name rfl) (evd_call (law_draw_spec c cells j 8 (by decide)) (hR.mono (by omega)) (fun B => evl_cons ev_int evl_nil)) (drawV_range cells j (by decide)).1 hf) (evd_itemtl (fun B => ev_name rfl) (evd_call d1 (hR.mono (by omega)) (fun B => evl_cons ev_int evl_nil)) (drawV_range cells (j + 1) (by decide)).1 hl) ?_
  unfold knownP
  refine run_ifa (b := ((first.length : Int) == 3)) (fun B => tr_cmp (ev_eq (ev_len (ev_name rfl)) ev_int)) (fun hz => ?_) fun hz => ?_
  · refine run_assign (v := .li (known1 first line)) (fun B => ?_) (run_weak d2)
    unfold known1
    rw [if_pos hz]
    exact ev_call (okMul_spec c o1) (hR.mono (by omega)) (evl_cons (ev_name rfl) (evl_cons (ev_name rfl) evl_nil))
  · have e : known1 first line = first := by
      unfold known1
      rw [if_neg (by rw [hz]; exact Bool.false_ne_true)]
    rw [e] at d2 ⊢
    exact run_weak d2
end Mine
namespace Mine

section
variable {c : Cx} {s₀ : Shared} {B₀ : List Addr} {A : Around} {env : Env} {d : D} {B : List Addr} {p q : Pos} {ρ : Rho} {x : Str} {P : Addr} {cells : List Int} {s : Shared}

theorem elt_draw {cenv : Env} {E Q : Value → Shared → Prop} {Bq : List Addr} {p1 p2 p3 p4 p5 p6 : Pos} {k k' : Nat} {j : Nat} {qc : Addr} (Pr : Pre c cenv ⟨[], none⟩ [] s) (hkind : cenv.kindOf "_law_draw" = some .globalImplicit) (hpk : cenv.kindOf x = some .cell) (hcell : cenv.cells.lookup x = some qc) (hc : s.heap.IsCell qc (some (.ref P))) (hPB : P ∉ Bq) (hlv : ∀ b ∈ Bq, ∃ o, s.heap.get? b = some o) (hp : PoolAt s.heap (P :: Bq) cells j P) (hR : Room A 1) (hdx : (x == ("__debug__" : Str)) = false)
    (hQ : ∀ t s', Turn P s s' → PoolAt s'.heap (P :: Bq) cells ((j : Int) + 1) P → Q (.int (drawV cells j 7 - 3) t) s') : wpAny (model c.prog c.w) A (eval (.BinOp (.Call (.Name "_law_draw" p1) [.Name x p2, .Constant (.int 7) k p3] [] p4) .Sub (.Constant (.int 3) k' p5) p6) cenv) Q E s := by
  obtain ⟨f, o, pm, code, doc, e1, e2, e3, e4⟩ := Pr.base.fn 44 (by decide) (by decide) ⟨_, _, _, _, _, _, _, _, _, _, rfl⟩
  have e1' : c.mg "_law_draw" = some (.ref f) := e1
  refine wpAny_BinOp ?_
  refine wpAny_Call_Name_kw (Name_function_global Pr.ek hkind (loadGlobal_global (by rw [Pr.eg]; exact Pr.base.g) e1' ?_) rfl)
  rw [show starEach [.Name x p2, .Constant (.int 7) k p3] cenv = (false, eval (.Name x p2) cenv) :: (false, eval (.Constant (.int 7) k p3) cenv) :: [] from rfl]
  refine callWith_function (o := o) (fd := docDef (nameOf (theFn 44)) (argsOf (theFn 44)) (bodyOf (theFn 44)) (scopeOf (theFn 44)) pm code doc) (evalArgs_plain ?_)
  refine spliced_cons (wpAny_Name (wpAny_loadName_cell Pr.ek hpk hcell hc ?_) hdx)
  refine (evl_cons (v := .int 7) ev_int evl_nil : EvL c A cenv ⟨[], none⟩ [] [.Constant (.int 7) k p3] [.int 7]) s E _ p4 Pr fun vals s₀' k₀ r₀ => ⟨⟨Kp.get k₀ e2, e3⟩, ?_⟩
  obtain ⟨w, rfl, u, rfl⟩ := repl1 r₀
  have Pr' := Pr.keeps k₀
  refine law_draw_spec c cells j 7 (by decide) A Bq s₀' _ _ f P _ e1 hR Pr'.base hPB (fun b hb => let ⟨o, e⟩ := hlv b hb; ⟨o, Kp.get k₀ e⟩) (PoolAt.move hp (fun o e => Kp.get k₀ e) fun _ _ y => y.off (Kp.off k₀ _)) ⟨⟨u, rfl⟩, trivial⟩ fun val s₁ T hp₁ r₁ => ?_
  obtain ⟨t, rfl⟩ := r₁
  refine wpAny_Constant_int (PyProof.Rows.sub_int ?_)
  obtain ⟨h', t', rfl, kp⟩ := T
  obtain ⟨h'', t'', rfl, kp0⟩ := k₀
  exact hQ _ _ ⟨h', _, rfl, fun b o hb e => kp b o hb (kp0 b o e)⟩ hp₁

def drawsP (cells : List Int) (j : Nat) (n : Nat) : List Int := (List.range n).map fun t => drawV cells (j + t) 7 - 3
theorem drawsP_succ (cells : List Int) (j n : Nat) : drawsP cells j (n + 1) = drawsP cells j n ++ [drawV cells (j + n) 7 - 3] := by
  unfold drawsP
  rw [List.range_succ, List.map_append]
  rfl
theorem drawsP_length (cells : List Int) (j n : Nat) : (drawsP cells j n).length = n := by simp [drawsP]

theorem evd_comp {iter : Expr} {y : Str} {py p1 p2 p3 p4 p5 p6 pos : Pos} {k k' : Nat} {scope : Scope} {cl : List (Str × Addr)} {xs : List V} {j : Nat} (hh : A.handled = none) (hR : Room A 1) (hit : ∀ B, It c A env ⟨ρ, some (x, P, .pool cells j)⟩ B iter xs) (hl : LenOk xs.length)
    (hcls : (relabel scope env).names.lookup x = some .cell ∧ env.kindOf x = some .cell ∧ cl.lookup x = env.cells.lookup x) (hkd : ∀ C, (compEnvC scope cl C env).kindOf "_law_draw" = some .globalImplicit)
    (hclos : closureFor scope env = pure cl) (hcell : ∀ y ∈ scope.names, y.2 ≠ .cell := by decide) (hkind : scope.kind = .function := by rfl) (hnames : ∀ y ∈ scope.names, y.2 = .local → scope.names.lookup y.1 = some .local := by decide) (hy : scope.names.lookup y = some .local := by rfl) (hdx : (x == ("__debug__" : Str)) = false := by rfl)
    (hs : ∀ x, foldedSetIterable iter env x = pure x := by intro _; rfl) :
    EvD c s₀ B₀ A env ρ x P cells j ((j + xs.length : Nat) : Int) (.ListComp (.BinOp (.Call (.Name "_law_draw" p1) [.Name x p2, .Constant (.int 7) k p3] [] p4) .Sub (.Constant (.int 3) k' p5) p6) [⟨.Name y py, iter, [], 0⟩] scope pos) (.li (drawsP cells j xs.length)) := by
  intro G B s E Q I hQ
  rw [eval_ListComp]
  refine wpAny_comprehension_free (use := none) rfl hs hclos hkind hnames (hit _ s _ _ I.pre fun s₁ s₂ J fp wr St k₁ k₂ W hsz hst hfp hfB hwr hwl => ?_)
  have kS : Keeps s s₂ := Kp.tr k₁ k₂
  have I₂ := I.keeps kS
  have P₂ := I₂.pre
  obtain ⟨m0, cm0, X0, h10, h20⟩ := I₂.fr
  obtain ⟨hasP, hpool₂, nPB, _, _⟩ := h20 x P _ rfl
  obtain ⟨qc, hqc, hcP⟩ : ∃ qc, env.cells.lookup x = some qc ∧ s₂.heap.IsCell qc (some (.ref P)) := by
    rcases hasP with ⟨a1, _⟩ | ⟨_, ⟨qc, hq⟩, e⟩
    · rw [hcls.2.1] at a1; cases a1
    · exact ⟨qc, hq, e ▸ X0.cell x qc hq⟩
  have liveP : ∃ o, s₂.heap.get? P = some o := hpool₂.live
  have Pbx : P ∈ bx env ⟨ρ, some (x, P, .pool cells j)⟩ B := List.mem_append.mpr (.inl (List.mem_cons_self ..))
  have Pfp : P ∉ fp := fun hm => hfB P hm Pbx
  have Pwr : P ∉ wr := fun hm => Pfp (W.sub P hm)
  refine wpAny_newObj_type (wpAny_newFunctionEnv hcell (by intro y hy; simp at hy) (fun h₁ hns₁ hsb₁ => ?_) hkind)
  dsimp only at hns₁ hsb₁ ⊢
  generalize hH2 : s₂.heap.push { cls := .type "list", dict := none, data := .seq ([] : List Value).toArray } = H2 at hns₁ hsb₁ ⊢
  have hC : H2.objs.size = s₂.heap.objs.size + 1 := by rw [← hH2, Heap.size_push]
  generalize hD : s₂.heap.objs.size = Dd at hC ⊢
  generalize hCc : H2.objs.size = C at hns₁ hsb₁ hC ⊢
  have hDC : Dd ≠ C := by rw [hC]; exact Nat.ne_of_lt (Nat.lt_succ_self _)
  have lt₂ : ∀ {b : Addr} {o : Obj}, s₂.heap.get? b = some o → b < Dd := fun e => hD ▸ Heap.lt_size e
  have neD : ∀ {b : Addr} {o : Obj}, s₂.heap.get? b = some o → b ≠ Dd ∧ b ≠ C := fun e => ⟨Nat.ne_of_lt (lt₂ e), by rw [hC]; exact Nat.ne_of_lt (Nat.lt_succ_of_lt (lt₂ e))⟩
  have PD : P ≠ Dd ∧ P ≠ C := let ⟨o, e⟩ := liveP; neD e
  have old : ∀ b o, s₂.heap.get? b = some o → h₁.get? b = some o := fun b o e => hsb₁.extBut b o (neD e).2 (Heap.get?_push_of_some _ (hH2 ▸ Heap.get?_push_of_some _ e))
  have hacc : h₁.PlainList Dd #[] := ⟨0, hsb₁.extBut _ _ hDC (Heap.get?_push_of_some _ (by rw [← hH2, ← hD]; exact Heap.get?_push_size _ rfl))⟩
  have fpD : ∀ b ∈ fp, b ≠ Dd ∧ b ≠ C := fun b hb => let ⟨o, e⟩ := hfp b hb; neD e
  have wrD : ∀ b ∈ wr, b ≠ Dd ∧ b ≠ C := fun b hb => fpD b (W.sub b hb)
  have wS : ∀ b o, s.heap.get? b = some o → b ∉ wr := fun b o e hm => by
    have e1 := Kp.get k₁ e
    rw [hwr b hm] at e1; cases e1
  have Cw : C ∉ wr := fun hm => (wrD C hm).2 rfl
  have Dw : Dd ∉ wr := fun hm => (wrD Dd hm).1 rfl
  have hst₁ : St 0 h₁ := W.frame 0 _ _ hst fun b _ o e => old b o e
  -- the places that the pool's own list is not at
  let Bq : List Addr := Dd :: C :: (wr ++ (env.locals :: env.cells.map (·.2) ++ B))
  have PBq : P ∉ Bq := fun hm => by
    rcases List.mem_cons.mp hm with e | hm
    · exact PD.1 e
    rcases List.mem_cons.mp hm with e | hm
    · exact PD.2 e
    rcases List.mem_append.mp hm with hm | hm
    · exact Pwr hm
    · exact nPB hm
  have pool₁ : PoolAt h₁ (P :: Bq) cells j P := by
    obtain ⟨q0, t0, hl0, hi0⟩ := hpool₂
    have hlive0 : ∃ o, s₁.heap.get? q0 = some o := by
      obtain ⟨m1, cm1, X1, h11, h21⟩ := (I.keeps k₁).fr
      obtain ⟨_, hpool₁, _⟩ := h21 x P _ rfl
      obtain ⟨q1, t1, hl1, hi1⟩ := hpool₁
      have hl1' : s₂.heap.IsList P #[.ref q1, .int j t1] := hl1.at fun o e => Kp.get k₂ e
      obtain ⟨o, ho, _, n, hd⟩ := hl0
      obtain ⟨o', ho', _, n', hd'⟩ := hl1'
      rw [ho] at ho'; cases ho'
      rw [hd] at hd'
      have this := (Data.seq.inj hd').1
      have hq : q0 = q1 := by
        have h2 := congrArg Array.toList this
        have h3 : Value.ref q0 = Value.ref q1 := (List.cons.inj h2).1
        exact Value.ref.inj h3
      subst hq
      obtain ⟨_, _, vs, ⟨o2, ho2, _⟩, _⟩ := hi1
      exact ⟨o2, ho2⟩
    obtain ⟨o0, e0⟩ := hlive0
    refine ⟨q0, t0, hl0.at fun o e => old P o e, ⟨fun hm => ?_, let ⟨_, hln, vs, hv, hi⟩ := hi0; ⟨hln, vs, hv.at fun o e => old q0 o e, hi⟩⟩⟩
    rcases List.mem_cons.mp hm with e | hm
    · exact hi0.1 (e ▸ Pbx)
    rcases List.mem_cons.mp hm with e | hm
    · exact (neD (Kp.get k₂ e0)).1 e
    rcases List.mem_cons.mp hm with e | hm
    · exact (neD (Kp.get k₂ e0)).2 e
    rcases List.mem_append.mp hm with hm | hm
    · rw [hwr q0 hm] at e0; cases e0
    · exact hi0.1 (List.mem_append.mpr (.inr hm))
  have loop : ∀ s₃ : Shared, s₃ = { s₂ with heap := h₁, toks := s₂.toks + ([] : List (Str × Value)).length } →
      codeAny (model c.prog c.w) A (.compLoop (.ListComp (.BinOp (.Call (.Name "_law_draw" p1) [.Name x p2, .Constant (.int 7) k p3] [] p4) .Sub (.Constant (.int 3) k' p5) p6) [⟨.Name y py, iter, [], 0⟩] scope pos) 0 (.ref J) (.ref Dd) (compEnvC scope cl C env))
        (compPost (model c.prog c.w) A E none Q (.ref Dd) C) s₃ := by
    rintro s₃ rfl
    refine codeAny_compLoop_list (fun n s' => ∃ i h' tk m' ys, i ≤ xs.length ∧ n = xs.length + 1 - i ∧ s' = { s₂ with heap := h', toks := tk } ∧ St i h' ∧ h'.PlainList Dd ys ∧ IntsAre ys.toList (drawsP cells j i) ∧ h'.Ns C m' ∧ PoolAt h' (P :: Bq) cells ((j + i : Nat) : Int) P ∧
      (∀ b o, b ∉ wr → b ≠ P → s₂.heap.get? b = some o → h'.get? b = some o)) ?_ (xs.length + 1) ⟨0, h₁, _, _, #[], Nat.zero_le _, rfl, rfl, hst₁, hacc, by simpa [drawsP] using IntsAre.nil, hns₁, pool₁, fun b o _ _ e => old b o e⟩
    rintro n s' ⟨i, h', tk, m', ys, hi', rfl, rfl, hst', hacc', hys, hn', hpool', hk'⟩
    by_cases hlt : i < xs.length
    · refine W.item i _ _ _ hlt hst' fun v h₂ tk₂ hP hst₂ hk₂ => ?_
      have hloc : (compEnvC scope cl C env).kindOf y = some .local := lookup_relabel_local hy
      have hnocls : ((compEnvC scope cl C env).scope.kind == .class || ((compEnvC scope cl C env).scope.kind == .module && (compEnvC scope cl C env).locals != (compEnvC scope cl C env).globals)) = false := by simp [compEnvC, relabel, hkind]
      have hn₂ : h₂.Ns C m' := hn'.at' fun o e => hk₂ C o Cw e
      refine wpAny_assign_Name (wpAny_storeName_local hloc hn₂ (fun h₃ hn₃ hs₃ => ?_) hnocls)
      replace hs₃ : Heap.SameBut C h₂ h₃ := hs₃
      have up₃ : ∀ b o, b ≠ C → b ∉ wr → h'.get? b = some o → h₃.get? b = some o := fun b o hbC hb e => hs₃.extBut b o hbC (hk₂ b o hb e)
      have hst₃ : St (i + 1) h₃ := W.frame (i + 1) _ _ hst₂ fun b hb o e => hs₃.extBut b o (fpD b hb).2 e
      have pool₃ : PoolAt h₃ (P :: Bq) cells ((j + i : Nat) : Int) P := hpool'.move (fun o e => up₃ P o PD.2 Pwr e) fun y' b yb => yb.off fun b' o' hb' e' => up₃ b' o' (fun e => hb' (e ▸ List.mem_cons_of_mem _ (List.mem_cons_of_mem _ (List.mem_cons_self ..)))) (fun hm => hb' (List.mem_cons_of_mem _ (List.mem_cons_of_mem _ (List.mem_cons_of_mem _ (List.mem_append.mpr (.inl hm)))))) e'
      have k3 : ∀ b o, b ≠ P → s.heap.get? b = some o → h₃.get? b = some o := fun b o hb e => by
        have e2 := Kp.get kS e
        exact up₃ b o (neD e2).2 (wS b o e) (hk' b o (wS b o e) hb e2)
      have hacc₃ : h₃.PlainList Dd ys := hacc'.at fun o e => up₃ Dd o hDC Dw e
      have base₃ : c.Base h₃ := by
        obtain ⟨q0, t0, hl0, _⟩ := I.pre.ow x P _ rfl |>.2
        exact (wipe_base hl0 I.pre.base).keeps fun b o e => k3 b o (wipe_get e).1 (wipe_get e).2
      have P₃ : Pre c (compEnvC scope cl C env) ⟨[], none⟩ [] { s₂ with heap := h₃, toks := tk₂ + 1 } := ⟨hkind, I.eg, I.eb, base₃, (fun b hb => nomatch hb), (fun _ _ e => nomatch e), (fun _ _ _ e => nomatch e)⟩
      have lv₃ : ∀ b ∈ Bq, ∃ o, h₃.get? b = some o := fun b hb => by
        rcases List.mem_cons.mp hb with rfl | hb
        · exact let ⟨n, e⟩ := hacc₃; ⟨_, e⟩
        rcases List.mem_cons.mp hb with rfl | hb
        · exact let ⟨o, _, _, e, _⟩ := hn₃; ⟨o, e⟩
        rcases List.mem_append.mp hb with hb | hb
        · exact hwl (i + 1) h₃ hst₃ b hb
        · obtain ⟨o, e⟩ := I.pre.live b (List.mem_append.mpr (.inr hb))
          exact ⟨o, k3 b o (fun e' => nPB (e' ▸ hb)) e⟩
      have hcP₃ : h₃.IsCell qc (some (.ref P)) := by
        have hqm : qc ∈ env.locals :: env.cells.map (·.2) ++ B := List.mem_append.mpr (.inl (List.mem_cons_of_mem _ (List.mem_map.mpr ⟨(x, qc), mem_of_lookup hqc, rfl⟩)))
        obtain ⟨o, e⟩ := I.pre.live qc (List.mem_append.mpr (.inr hqm))
        obtain ⟨o2, e2, hd2⟩ := hcP
        have e3 := Kp.get kS e
        rw [e2] at e3; cases e3
        exact ⟨o, k3 qc o (fun e' => nPB (e' ▸ hqm)) e, hd2⟩
      refine elt_draw (x := x) (P := P) (Bq := Bq) (cells := cells) (j := j + i) (qc := qc) P₃ (hkd C) hcls.1 (hcls.2.2.trans hqc) hcP₃ PBq lv₃ pool₃ hR hdx fun t s₄ T pool₄ => ?_
      obtain ⟨h₄, tk₄, rfl, hk₄⟩ := T
      have hk₄ : ∀ b o, b ≠ P → h₃.get? b = some o → h₄.get? b = some o := hk₄
      have hacc₄ : h₄.PlainList Dd ys := hacc₃.at fun o e => hk₄ Dd o (Ne.symm PD.1) e
      have hylen := hys.length
      rw [drawsP_length] at hylen
      simp only [Array.length_toList] at hylen
      refine wpAny_list_append_plain hacc₄ (fun h₅ hl₅ hs₅ => ?_) (by have := hl.line; omega)
      refine ⟨xs.length + 1 - (i + 1), by omega, i + 1, h₅, tk₄, _, ys.push (.int (drawV cells (j + i) 7 - 3) t), hlt, rfl, rfl, ?_, hl₅, ?_, (hn₃.at' fun o e => hk₄ C o (Ne.symm PD.2) e).sameBut hs₅ (Ne.symm hDC), ?_, fun b o hb hbP e => ?_⟩
      · exact W.frame (i + 1) _ _ hst₃ fun b hb o e => hs₅.extBut b o (fpD b hb).1 (hk₄ b o (fun e' => Pfp (e' ▸ hb)) e)
      · rw [drawsP_succ, Array.toList_push]
        exact hys.append (.cons _ _ .nil)
      · have e : ((j + (i + 1) : Nat) : Int) = ((j + i : Nat) : Int) + 1 := by omega
        rw [e]
        exact PoolAt.move pool₄ (fun o e => hs₅.extBut P o PD.1 e) fun y' b yb => yb.off fun b' o' hb' e' => hs₅.extBut b' o' (fun e => hb' (e ▸ List.mem_cons_of_mem _ (List.mem_cons_self ..))) e'
      · exact hs₅.extBut b o (neD e).1 (hk₄ b o hbP (up₃ b o (neD e).2 hb (hk' b o hb hbP e)))
    · have hin : i = xs.length := by omega
      subst hin
      refine W.done _ _ _ hst' fun h₂ tk₂ hk₂ => ?_
      refine ⟨m', hn'.at' fun o e => hk₂ C o Cw e, fun h₃ hs₃ => ?_⟩
      have hs₃ : Heap.SameBut C h₂ h₃ := hs₃
      have fin : Turn P s { s₂ with heap := h₃, toks := tk₂ } := by
        obtain ⟨h2, t2, e2, q2⟩ := kS
        refine ⟨h₃, tk₂, by rw [e2], fun b o hb e => ?_⟩
        have e3 : s₂.heap.get? b = some o := by rw [e2]; exact q2 b o e
        exact hs₃.extBut b o (neD e3).2 (hk₂ b o (wS b o e) (hk' b o (wS b o e) hb e3))
      have sub : ∀ b ∈ bx env ⟨ρ, some (x, P, .pool cells j)⟩ B, b ∈ P :: Bq := fun b hb => by
        rcases List.mem_append.mp hb with hb | hb
        · rw [List.mem_singleton.mp hb]; exact List.mem_cons_self ..
        · exact List.mem_cons_of_mem _ (List.mem_cons_of_mem _ (List.mem_cons_of_mem _ (List.mem_append.mpr (.inr hb))))
      have pool₃ : PoolAt h₃ (P :: Bq) cells ((j + xs.length : Nat) : Int) P := hpool'.move (fun o e => hs₃.extBut P o PD.2 (hk₂ P o Pwr e)) fun y' b yb => yb.off fun b' o' hb' e' => hs₃.extBut b' o' (fun e => hb' (e ▸ List.mem_cons_of_mem _ (List.mem_cons_of_mem _ (List.mem_cons_self ..)))) (hk₂ b' o' (fun hm => hb' (List.mem_cons_of_mem _ (List.mem_cons_of_mem _ (List.mem_cons_of_mem _ (List.mem_append.mpr (.inl hm)))))) e')
      have I₃ := I.turnD (v' := .pool cells ((j + xs.length : Nat) : Int)) fin (PoolAt.move pool₃ (fun _ e => e) fun y' b yb => yb.sub sub)
      refine hQ (.ref Dd) _ I₃ ⟨Dd, rfl, fun hm => ?_, by rw [drawsP_length]; exact hl, ys, ((hacc'.at fun o e => hk₂ Dd o Dw e).at fun o e => hs₃.extBut Dd o hDC e).isList, hys⟩ (fin.off Pbx)
      obtain ⟨o, e⟩ := I₂.pre.live Dd hm
      exact (neD e).1 rfl
  exact codeAny_compStart_list (loop _ rfl) (W.self 0 _ _ _ hst₁ (loop _ rfl))

/- x + y, x drawn -/
theorem evd_cat {l r : Expr} {a b : List Int} {k k' : Int} (h1 : EvD c s₀ B₀ A env ρ x P cells k k' l (.li a)) (h2 : ∀ B, Ev c A env ⟨ρ, some (x, P, .pool cells k')⟩ B r (.li b)) (hl : LenOk (a ++ b).length) : EvD c s₀ B₀ A env ρ x P cells k k' (.BinOp l .Add r p) (.li (a ++ b)) := by
  intro G B s E Q I hQ
  refine wpAny_BinOp (h1 G B s _ _ I fun va s₁ I₁ r₁ o₁ => h2 _ s₁ _ _ I₁.pre fun vb s₂ k₂ r₂ => ?_)
  obtain ⟨a', rfl, ha, _, vs, ⟨⟨c1, dd1, data1, sl1⟩, hp, hc1, n, hd1⟩, hi⟩ := r₁.off (Kp.off k₂ _)
  obtain ⟨b', rfl, hb, _, ws, ⟨⟨c2, dd2, data2, sl2⟩, hq, hc2, m, hd2⟩, hj⟩ := r₂
  simp only at hc1 hd1 hc2 hd2
  subst hc1 hd1 hc2 hd2
  have e1 := hi.length
  have e2 := hj.length
  have e3 := hl.line
  rw [List.length_append] at e3
  have I₂ := I₁.keeps k₂
  refine concat_meets ⟨_, hp, rfl⟩ ⟨_, hq, rfl⟩ noFill_list_add seq_list_add PySem.F.slot_list_add PySem.F.entry_list_add (PySem.F.args_list_add_2 _ _) (list_addW a' b' vs ws n m dd1 dd2 sl1 sl2 (by simp only [Array.length_toList] at e1 e2; omega)) ⟨hp, hq, ?_⟩
  have kk := push_kp (s := s₂) { cls := .type "list", data := .seq (vs ++ ws) }
  exact hQ _ _ (I₂.keeps kk) ⟨_, rfl, I₂.pre.fresh get_size, hl, vs ++ ws, isList_new _ _, by simpa using hi.append hj⟩ (off_tr o₁ (Kp.off (Kp.tr k₂ kk) _))
end
end Mine
namespace Mine
def okLaw (f : List Int) : Bool := lawP f == some true
def rng7 : List Int := [0, 1, 2, 3, 4, 5, 6]
theorem of_all {α : Type} {l : List α} {q : α → Bool} (h : l.all q = true) {x : α} (hx : x ∈ l) : q x = true := List.all_eq_true.mp h x hx
theorem mem7 {d : Int} (h0 : 0 ≤ d) (h1 : d < 7) : d ∈ rng7 := by
  have : d = 0 ∨ d = 1 ∨ d = 2 ∨ d = 3 ∨ d = 4 ∨ d = 5 ∨ d = 6 := by omega
  rcases this with rfl | rfl | rfl | rfl | rfl | rfl | rfl <;> decide
theorem cases7 {d : Int} (h : d ∈ rng7) : d = 0 ∨ d = 1 ∨ d = 2 ∨ d = 3 ∨ d = 4 ∨ d = 5 ∨ d = 6 := by
  simpa [rng7] using h
theorem law_of_ok {f : List Int} (h : okLaw f = true) : lawP f = some true := eq_of_beq h
theorem quad0 : (rng7.all fun y => okLaw [0 - 3, y - 3, 1]) = true := by decide +kernel
theorem quad1 : (rng7.all fun y => okLaw [1 - 3, y - 3, 1]) = true := by decide +kernel
theorem quad2 : (rng7.all fun y => okLaw [2 - 3, y - 3, 1]) = true := by decide +kernel
theorem quad3 : (rng7.all fun y => okLaw [3 - 3, y - 3, 1]) = true := by decide +kernel
theorem quad4 : (rng7.all fun y => okLaw [4 - 3, y - 3, 1]) = true := by decide +kernel
theorem quad5 : (rng7.all fun y => okLaw [5 - 3, y - 3, 1]) = true := by decide +kernel
theorem quad6 : (rng7.all fun y => okLaw [6 - 3, y - 3, 1]) = true := by decide +kernel
theorem cub00 : (rng7.all fun z => okLaw [0 - 3, 0 - 3, z - 3, 1]) = true := by decide +kernel
theorem cub01 : (rng7.all fun z => okLaw [0 - 3, 1 - 3, z - 3, 1]) = true := by decide +kernel
theorem cub02 : (rng7.all fun z => okLaw [0 - 3, 2 - 3, z - 3, 1]) = true := by decide +kernel
theorem cub03 : (rng7.all fun z => okLaw [0 - 3, 3 - 3, z - 3, 1]) = true := by decide +kernel
theorem cub04 : (rng7.all fun z => okLaw [0 - 3, 4 - 3, z - 3, 1]) = true := by decide +kernel
theorem cub05 : (rng7.all fun z => okLaw [0 - 3, 5 - 3, z - 3, 1]) = true := by decide +kernel
theorem cub06 : (rng7.all fun z => okLaw [0 - 3, 6 - 3, z - 3, 1]) = true := by decide +kernel
theorem cub10 : (rng7.all fun z => okLaw [1 - 3, 0 - 3, z - 3, 1]) = true := by decide +kernel
theorem cub11 : (rng7.all fun z => okLaw [1 - 3, 1 - 3, z - 3, 1]) = true := by decide +kernel
theorem cub12 : (rng7.all fun z => okLaw [1 - 3, 2 - 3, z - 3, 1]) = true := by decide +kernel
theorem cub13 : (rng7.all fun z => okLaw [1 - 3, 3 - 3, z - 3, 1]) = true := by decide +kernel
theorem cub14 : (rng7.all fun z => okLaw [1 - 3, 4 - 3, z - 3, 1]) = true := by decide +kernel
theorem cub15 : (rng7.all fun z => okLaw [1 - 3, 5 - 3, z - 3, 1]) = true := by decide +kernel
theorem cub16 : (rng7.all fun z => okLaw [1 - 3, 6 - 3, z - 3, 1]) = true := by decide +kernel
theorem cub20 : (rng7.all fun z => okLaw [2 - 3, 0 - 3, z - 3, 1]) = true := by decide +kernel
theorem cub21 : (rng7.all fun z => okLaw [2 - 3, 1 - 3, z - 3, 1]) = true := by decide +kernel
theorem cub22 : (rng7.all fun z => okLaw [2 - 3, 2 - 3, z - 3, 1]) = true := by decide +kernel
theorem cub23 : (rng7.all fun z => okLaw [2 - 3, 3 - 3, z - 3, 1]) = true := by decide +kernel
theorem cub24 : (rng7.all fun z => okLaw [2 - 3, 4 - 3, z - 3, 1]) = true := by decide +kernel
theorem cub25 : (rng7.all fun z => okLaw [2 - 3, 5 - 3, z - 3, 1]) = true := by decide +kernel
theorem cub26 : (rng7.all fun z => okLaw [2 - 3, 6 - 3, z - 3, 1]) = true := by decide +kernel
theorem cub30 : (rng7.all fun z => okLaw [3 - 3, 0 - 3, z - 3, 1]) = true := by decide +kernel
theorem cub31 : (rng7.all fun z => okLaw [3 - 3, 1 - 3, z - 3, 1]) = true := by decide +kernel
theorem cub32 : (rng7.all fun z => okLaw [3 - 3, 2 - 3, z - 3, 1]) = true := by decide +kernel
theorem cub33 : (rng7.all fun z => okLaw [3 - 3, 3 - 3, z - 3, 1]) = true := by decide +kernel
theorem cub34 : (rng7.all fun z => okLaw [3 - 3, 4 - 3, z - 3, 1]) = true := by decide +kernel
theorem cub35 : (rng7.all fun z => okLaw [3 - 3, 5 - 3, z - 3, 1]) = true := by decide +kernel
theorem cub36 : (rng7.all fun z => okLaw [3 - 3, 6 - 3, z - 3, 1]) = true := by decide +kernel
theorem cub40 : (rng7.all fun z => okLaw [4 - 3, 0 - 3, z - 3, 1]) = true := by decide +kernel
theorem cub41 : (rng7.all fun z => okLaw [4 - 3, 1 - 3, z - 3, 1]) = true := by decide +kernel
theorem cub42 : (rng7.all fun z => okLaw [4 - 3, 2 - 3, z - 3, 1]) = true := by decide +kernel
theorem cub43 : (rng7.all fun z => okLaw [4 - 3, 3 - 3, z - 3, 1]) = true := by decide +kernel
theorem cub44 : (rng7.all fun z => okLaw [4 - 3, 4 - 3, z - 3, 1]) = true := by decide +kernel
theorem cub45 : (rng7.all fun z => okLaw [4 - 3, 5 - 3, z - 3, 1]) = true := by decide +kernel
theorem cub46 : (rng7.all fun z => okLaw [4 - 3, 6 - 3, z - 3, 1]) = true := by decide +kernel
theorem cub50 : (rng7.all fun z => okLaw [5 - 3, 0 - 3, z - 3, 1]) = true := by decide +kernel
theorem cub51 : (rng7.all fun z => okLaw [5 - 3, 1 - 3, z - 3, 1]) = true := by decide +kernel
theorem cub52 : (rng7.all fun z => okLaw [5 - 3, 2 - 3, z - 3, 1]) = true := by decide +kernel
theorem cub53 : (rng7.all fun z => okLaw [5 - 3, 3 - 3, z - 3, 1]) = true := by decide +kernel
theorem cub54 : (rng7.all fun z => okLaw [5 - 3, 4 - 3, z - 3, 1]) = true := by decide +kernel
theorem cub55 : (rng7.all fun z => okLaw [5 - 3, 5 - 3, z - 3, 1]) = true := by decide +kernel
theorem cub56 : (rng7.all fun z => okLaw [5 - 3, 6 - 3, z - 3, 1]) = true := by decide +kernel
theorem cub60 : (rng7.all fun z => okLaw [6 - 3, 0 - 3, z - 3, 1]) = true := by decide +kernel
theorem cub61 : (rng7.all fun z => okLaw [6 - 3, 1 - 3, z - 3, 1]) = true := by decide +kernel
theorem cub62 : (rng7.all fun z => okLaw [6 - 3, 2 - 3, z - 3, 1]) = true := by decide +kernel
theorem cub63 : (rng7.all fun z => okLaw [6 - 3, 3 - 3, z - 3, 1]) = true := by decide +kernel
theorem cub64 : (rng7.all fun z => okLaw [6 - 3, 4 - 3, z - 3, 1]) = true := by decide +kernel
theorem cub65 : (rng7.all fun z => okLaw [6 - 3, 5 - 3, z - 3, 1]) = true := by decide +kernel
theorem cub66 : (rng7.all fun z => okLaw [6 - 3, 6 - 3, z - 3, 1]) = true := by decide +kernel
theorem plain1 {x y : Int} (hx : x ∈ rng7) (hy : y ∈ rng7) : okLaw [x - 3, y - 3, 1] = true := by
  rcases cases7 hx with rfl | rfl | rfl | rfl | rfl | rfl | rfl
  · exact of_all quad0 hy
  · exact of_all quad1 hy
  · exact of_all quad2 hy
  · exact of_all quad3 hy
  · exact of_all quad4 hy
  · exact of_all quad5 hy
  · exact of_all quad6 hy
theorem plain2 {x y z : Int} (hx : x ∈ rng7) (hy : y ∈ rng7) (hz : z ∈ rng7) : okLaw [x - 3, y - 3, z - 3, 1] = true := by
  rcases cases7 hx with rfl | rfl | rfl | rfl | rfl | rfl | rfl
  · rcases cases7 hy with rfl | rfl | rfl | rfl | rfl | rfl | rfl
    · exact of_all cub00 hz
    · exact of_all cub01 hz
    · exact of_all cub02 hz
    · exact of_all cub03 hz
    · exact of_all cub04 hz
    · exact of_all cub05 hz
    · exact of_all cub06 hz
  · rcases cases7 hy with rfl | rfl | rfl | rfl | rfl | rfl | rfl
    · exact of_all cub10 hz
    · exact of_all cub11 hz
    · exact of_all cub12 hz
    · exact of_all cub13 hz
    · exact of_all cub14 hz
    · exact of_all cub15 hz
    · exact of_all cub16 hz
  · rcases cases7 hy with rfl | rfl | rfl | rfl | rfl | rfl | rfl
    · exact of_all cub20 hz
    · exact of_all cub21 hz
    · exact of_all cub22 hz
    · exact of_all cub23 hz
    · exact of_all cub24 hz
    · exact of_all cub25 hz
    · exact of_all cub26 hz
  · rcases cases7 hy with rfl | rfl | rfl | rfl | rfl | rfl | rfl
    · exact of_all cub30 hz
    · exact of_all cub31 hz
    · exact of_all cub32 hz
    · exact of_all cub33 hz
    · exact of_all cub34 hz
    · exact of_all cub35 hz
    · exact of_all cub36 hz
  · rcases cases7 hy with rfl | rfl | rfl | rfl | rfl | rfl | rfl
    · exact of_all cub40 hz
    · exact of_all cub41 hz
    · exact of_all cub42 hz
    · exact of_all cub43 hz
    · exact of_all cub44 hz
    · exact of_all cub45 hz
    · exact of_all cub46 hz
  · rcases cases7 hy with rfl | rfl | rfl | rfl | rfl | rfl | rfl
    · exact of_all cub50 hz
    · exact of_all cub51 hz
    · exact of_all cub52 hz
    · exact of_all cub53 hz
    · exact of_all cub54 hz
    · exact of_all cub55 hz
    · exact of_all cub56 hz
  · rcases cases7 hy with rfl | rfl | rfl | rfl | rfl | rfl | rfl
    · exact of_all cub60 hz
    · exact of_all cub61 hz
    · exact of_all cub62 hz
    · exact of_all cub63 hz
    · exact of_all cub64 hz
    · exact of_all cub65 hz
    · exact of_all cub66 hz
end Mine
namespace Mine

def okK (f g : List Int) : Bool := okKnown f g && okLaw (knownP f g 0) && okLaw (knownP f g 1)
theorem kn0 : (linesL.all fun g => okK [1, -3, 0, 1] g) = true := by decide +kernel
theorem kn1 : (linesL.all fun g => okK [-1, -3, 0, 1] g) = true := by decide +kernel
theorem kn2 : (linesL.all fun g => okK [-1, -2, 1, 1] g) = true := by decide +kernel
theorem kn3 : (linesL.all fun g => okK [1, -2, -1, 1] g) = true := by decide +kernel
theorem kn4 : (linesL.all fun g => okK [-2, 0, 1] g) = true := by decide +kernel
theorem kn5 : (linesL.all fun g => okK [-1, 1, 1] g) = true := by decide +kernel
theorem kn6 : (linesL.all fun g => okK [-1, -1, 1] g) = true := by decide +kernel
theorem kn7 : (linesL.all fun g => okK [-3, 0, 1] g) = true := by decide +kernel
theorem plainK {f g : List Int} (hf : f ∈ othersL) (hg : g ∈ linesL) : okK f g = true := by
  unfold othersL at hf
  rcases List.mem_cons.mp hf with rfl | hf
  · exact of_all kn0 hg
  rcases List.mem_cons.mp hf with rfl | hf
  · exact of_all kn1 hg
  rcases List.mem_cons.mp hf with rfl | hf
  · exact of_all kn2 hg
  rcases List.mem_cons.mp hf with rfl | hf
  · exact of_all kn3 hg
  rcases List.mem_cons.mp hf with rfl | hf
  · exact of_all kn4 hg
  rcases List.mem_cons.mp hf with rfl | hf
  · exact of_all kn5 hg
  rcases List.mem_cons.mp hf with rfl | hf
  · exact of_all kn6 hg
  rcases List.mem_cons.mp hf with rfl | hf
  · exact of_all kn7 hg
  cases hf
theorem known_t (f g : List Int) (t : Int) : knownP f g t = knownP f g 0 ∨ knownP f g t = knownP f g 1 := by
  by_cases h : t = 0
  · subst h; exact .inl rfl
  · refine .inr ?_
    unfold knownP
    rw [if_neg (by simpa using h), if_neg (by decide)]
theorem rep_of_pool {l : List Int} {k : Int} : ∀ h B a, Cont h B (.pool l k) a → a ∉ B → Rep h B (.pool l k) (.ref a) := fun _ _ _ x hb => ⟨_, rfl, hb, x⟩

theorem law_done (c : Cx) (pm code doc : Value) (L a : Addr) (A : Around) (s₀ : Shared) (B₀ : List Addr) (P : Addr) (hR : Room A 9) (cells f : List Int) (k : Int) (ρ : Rho) (h : okLaw f = true) (hf : List.lookup ("f" : Str) ρ = some (V.li f)) :
    Run c s₀ B₀ A (fenv (theFn 49) pm code doc L a) ⟨ρ, some ("pool", P, .pool cells k)⟩ ((bodyOf (theFn 49)).drop 3) (RetQ s₀ B₀ (.bool true)) := by
  refine run_freeze rfl rep_of_pool (run_weak (law_rest c pm code doc L a A s₀ B₀ hR f true (law_of_ok h)) ⟨?_, trivial⟩)
  show List.lookup ("f" : Str) (("pool", V.pool cells k) :: ρ : Rho) = _
  rw [List.lookup_cons, beq_eq_false_iff_ne.mpr (by decide)]
  exact hf

set_option maxHeartbeats 4000000 in
theorem law_body (c : Cx) (pm code doc : Value) (L a : Addr) (A : Around) (s₀ : Shared) (B₀ : List Addr) (P : Addr) (hR : Room A 9) (cells : List Int) :
    Run c s₀ B₀ A (fenv (theFn 49) pm code doc L a) ⟨[], some ("pool", P, .pool cells ((0 : Nat) : Int))⟩ ((bodyOf (theFn 49)).drop 1) (RetQ s₀ B₀ (.bool true)) := by
  have r0 := drawV_range cells 0 (m := 3) (by decide)
  refine run_assignD (evd_call (law_draw_spec c cells 0 3 (by decide)) (hR.mono (by omega)) (fun B => evl_cons ev_int evl_nil)) ?_
  generalize drawV cells 0 3 = kind at r0 ⊢
  rw [show ((0 : Nat) : Int) + 1 = ((1 : Nat) : Int) by omega]
  refine run_ifa (b := (kind == 1)) (fun B => tr_cmp (ev_eq (ev_name rfl) ev_int)) (fun hz => ?_) fun hz => ?_
  · have d8 := drawV_range cells 1 (m := 8) (by decide)
    have d5 := drawV_range cells 2 (m := 5) (by decide)
    have hf : othersL[(drawV cells 1 8).toNat]? = some (othersL[(drawV cells 1 8).toNat]'(by unfold othersL; simp only [List.length_cons, List.length_nil]; omega)) := List.getElem?_eq_getElem _
    have hl : linesL[(drawV cells 2 5).toNat]? = some (linesL[(drawV cells 2 5).toNat]'(by unfold linesL; simp only [List.length_cons, List.length_nil]; omega)) := List.getElem?_eq_getElem _
    generalize othersL[(drawV cells 1 8).toNat]'(by unfold othersL; simp only [List.length_cons, List.length_nil]; omega) = first at hf
    generalize linesL[(drawV cells 2 5).toNat]'(by unfold linesL; simp only [List.length_cons, List.length_nil]; omega) = line at hl
    have ok : (okKnown first line && okLaw (knownP first line 0) && okLaw (knownP first line 1)) = true := plainK (List.mem_of_getElem? hf) (List.mem_of_getElem? hl)
    obtain ⟨ok, ok3⟩ := Bool.and_eq_true_iff.mp ok
    obtain ⟨ok1, ok2⟩ := Bool.and_eq_true_iff.mp ok
    have okf : okLaw (knownP first line (drawV cells 3 3)) = true := by
      rcases known_t first line (drawV cells 3 3) with e | e
      · rw [e]; exact ok2
      · rw [e]; exact ok3
    refine run_assignD (evd_call (law_known_spec c cells 1 first line hf hl ok1) (hR.mono (by omega)) (fun B => evl_nil)) ?_
    exact law_done c pm code doc L a A s₀ B₀ P hR cells _ _ _ okf rfl
  · have hk : kind = 0 ∨ kind = 2 := by
      have : kind ≠ 1 := by simpa using hz
      omega
    have r1 := drawV_range cells 1 (m := 7) (by decide)
    have r2 := drawV_range cells 2 (m := 7) (by decide)
    have r3 := drawV_range cells 3 (m := 7) (by decide)
    obtain ⟨n, hn, hn1, okf⟩ : ∃ n : Nat, (2 + kind.fdiv 2).toNat = n ∧ (2 + kind.fdiv 2) = n ∧ n ≤ 3 ∧ okLaw (drawsP cells 1 n ++ [1]) = true := by
      rcases hk with rfl | rfl
      · exact ⟨2, rfl, rfl, by omega, plain1 (mem7 r1.1 r1.2) (mem7 r2.1 r2.2)⟩
      · exact ⟨3, rfl, rfl, by omega, plain2 (mem7 r1.1 r1.2) (mem7 r2.1 r2.2) (mem7 r3.1 r3.2)⟩
    obtain ⟨n3, okf⟩ := okf
    refine run_assignD (v := .li (drawsP cells 1 n ++ [1])) (k' := ((1 + n : Nat) : Int)) (evd_cat ?_ (fun B => ev_list (l := [1]) (evl_cons ev_int evl_nil) (by unfold LenOk; simp)) (by unfold LenOk; rw [List.length_append, drawsP_length]; simp only [List.length_cons, List.length_nil]; omega)) ?_
    · have e := upto_length 0 n
      rw [← e]
      exact evd_comp (xs := upto 0 n) hR.1 (hR.mono (by omega)) (fun B => it_range1 hR.1 (ev_add ev_int (ev_fdiv (ev_name rfl) ev_int (by decide) (by unfold Sm; decide))) hn (by unfold LenOk; omega) (by omega)) (by rw [e]; unfold LenOk; omega) (by exact ⟨rfl, rfl, rfl⟩) (fun C => rfl) (hclos := rfl)
    · exact law_done c pm code doc L a A s₀ B₀ P hR cells _ _ _ okf rfl
end Mine
namespace Mine
section
variable {c : Cx} {A : Around} {env : Env} {d : D} {B : List Addr} {pos p q : Pos}
theorem ev_intcall {e : Expr} {i : Int} (h : Ev c A env d B e (.int i)) (hkind : env.kindOf "int" = some .globalImplicit := by rfl) (hes : starEach [e] env = (false, eval e env) :: starEach [] env := by rfl) : Ev c A env d B (.Call (.Name "int" q) [e] [] p) (.int i) := by
  intro s E Q P hQ
  refine ev_tcall (id := "int") (vs := [.int i]) P (by decide) (by decide +kernel) hkind (evl_cons h evl_nil hes) ⟨_, _, rfl, hes⟩ (by rw [hes]; rfl) (by decide) (by decide) fun vals s₁ k₁ r₁ => ?_
  obtain ⟨v, rfl, t, rfl⟩ := repl1 r₁
  exact PySem.call_int_int (hQ _ _ k₁ ⟨t, rfl⟩)
theorem evf_pool {e1 e2 : Expr} {cells : List Int} {k : Int} (h : EvL c A env d B [e1, e2] [.li cells, .int k]) : EvF c A env d B (.List [e1, e2] p) (.pool cells k) := by
  intro s E Q P hQ
  refine List_ (h s _ _ p P fun vals s₁ k₁ r₁ => ?_)
  obtain ⟨v1, v2, rfl, r1, r2⟩ := repl2 r₁
  obtain ⟨a, rfl, ha⟩ := rep_li r1
  obtain ⟨t, rfl⟩ := r2
  have kk := push_kp (s := s₁) { cls := .type "list", data := .seq #[.ref a, .int k t] }
  have hnew : s₁.heap.get? s₁.heap.objs.size = none := get_size
  have hold : s.heap.get? s₁.heap.objs.size = none := by
    cases e : s.heap.get? s₁.heap.objs.size with
    | none => rfl
    | some o => have := Kp.get k₁ e; rw [hnew] at this; cases this
  have hna : a ≠ s₁.heap.objs.size := fun e => by
    obtain ⟨_, _, vs, ⟨o, ho, _⟩, _⟩ := ha
    rw [e, hnew] at ho; cases ho
  have ha' : IntsAt s₁.heap (s₁.heap.objs.size :: B) cells a := ⟨fun hm => by
    rcases List.mem_cons.mp hm with e | hm
    · exact hna e
    · exact ha.1 hm, ha.2⟩
  have fin : Cont (s₁.heap.push { cls := .type "list", data := .seq #[.ref a, .int k t] }) (s₁.heap.objs.size :: B) (.pool cells k) s₁.heap.objs.size := ⟨a, t, isList_new _ _, ha'.off (Kp.off kk _)⟩
  refine wpAny_newObj_type (hQ _ _ (Kp.tr k₁ kk) hold fin) ?_
  show #[Value.ref a, .int k t].size ≤ sizeLine
  rw [sizeLine_eq]
  show 2 ≤ _
  omega
end
theorem law_spec (c : Cx) (script : List Int) : Spec c (theFn 49) [.li script] (.bool true) 10 := by
  refine spec_intro (n := 9) ["script"] fun pm code doc L f A s₀ B hR => ?_
  refine run_lenok "script" rfl fun hl => ?_
  refine run_assign_own (v := .pool ((script.take (6 : Int).toNat).map fun n => n) ((0 : Nat) : Int)) (fun B => evf_pool (evl_cons (ev_compT (fun n => n) [] (it_li hR.1 (ev_upto (ev_name rfl) ev_int (by decide))) trivial (fun n hn C => ev_intcall (ev_name rfl)) (by unfold LenOk at *; rw [List.length_take]; omega) (hclos := rfl)) (evl_cons (v := .int ((0 : Nat) : Int)) ev_int evl_nil))) fun ad => ?_
  exact run_weak (law_body c pm code doc L f A s₀ B ad hR _)

/- the defs of the text -/
def posOf : Stmt → Pos
  | .FunctionDef _ _ _ _ _ _ _ _ _ p => p
  | _ => ⟨0, 0, 0, 0⟩
def recOf (i : Nat) : DefRec := ⟨nameOf (theFn i), argsOf (theFn i), bodyOf (theFn i), scopeOf (theFn i), posOf (theFn i)⟩
def isDef : Stmt → Bool
  | .FunctionDef _ _ _ _ _ _ _ _ _ _ => true
  | _ => false
def idx : List Nat := (List.range 60).filter fun i => isDef (theFn i)
def recsAll : List DefRec := idx.map recOf
theorem base_of_top {prog : Program} {w : World} {p : Program} {loose : List Str} {mean : ExcName → Option Value} {mg mb : Str → Option Value} {h : Heap} (T : Top p loose mean mg mb h) (hrec : recsOf p = recsAll)
    (hfree : ∀ x ∈ bnames, x ∉ startupNames ∧ x ∉ loose ∧ x ∉ (recsOf p).map (·.name) ∧ x ∉ (litsOf p).map (·.1) ∧ x ∉ (clssOf p loose).map (·.name)) : Cx.Base ⟨prog, w, mg, mb⟩ h where
  g := T.g
  b := T.b
  lim := T.nolimit
  boot := T.builtins
  free := fun x hx => let ⟨h1, h2, h3, h4, h5⟩ := hfree x hx; T.free x h1 h2 h3 h4 h5
  fn := fun i h1 h2 h3 => by
    have hm : recOf i ∈ recsOf p := by
      rw [hrec]
      refine List.mem_map_of_mem (List.mem_filter.mpr ⟨List.mem_range.mpr h2, ?_⟩)
      obtain ⟨_, _, _, _, _, _, _, _, _, _, e⟩ := h3
      rw [e]
      rfl
    obtain ⟨a, o, pm, code, doc, e1, e2, e3, e4⟩ := T.fn _ hm
    exact ⟨a, o, pm, code, doc, e1, e2, e3, e4⟩
end Mine
namespace Mine
def keepIdx : List Nat := [1, 3, 4, 6, 7, 8, 9, 10, 11, 12, 13, 14, 15, 16, 17, 18, 19, 20, 21, 23, 24, 25, 26, 28, 29, 30, 32, 33, 34, 35, 36, 37, 38, 39, 40, 41, 42, 44, 45, 46, 47, 48, 49]
def view : Program := { PySem.Challenge.rw_xm0143_01.row.prog with main := { PySem.Challenge.rw_xm0143_01.row.prog.main with body := keepIdx.map theFn } }
def keptAt (s : Shared) : Bool := xlAt view [] s && recOk (RowW.records (OpenRow.toRowW PySem.Challenge.rw_xm0143_01.row)) s
theorem head_left : LeftO PySem.Challenge.rw_xm0143_01.row.prog view [] keptAt (Hook.obs Hook.none) (Hook.val Hook.none) 3238 := fun w => by kernel_rfl
theorem room_ok : Room callerA 10 := ⟨rfl, by decide +kernel, by decide +kernel⟩
end Mine

set_option maxHeartbeats 8000000 in
theorem PySem.Challenge.cw_xm0143_01_holds : PySem.Challenge.rw_xm0143_01.Holds := by
  w_on
  o_law
  refine holds_open (q := Mine.view) (loose := []) (Xt := Mine.keptAt) (XP := XL Mine.view []) (Yf := Hook.obs Hook.none) (Ya := Hook.val Hook.none) (YP := Hook.says Hook.none) (N := 3238) Mine.head_left (Hook.of Hook.none) (Hook.keeps Hook.none) (fun s e => xl_of s (Bool.and_eq_true_iff.mp e).1) XL.keeps (by rfl) (by rfl) (by rfl) (fun s e => recFacts_of (Bool.and_eq_true_iff.mp e).2) (by rfl) (by assumption) (by decide +kernel) ⟨rfl, rfl, rfl, rfl, rfl, by decide +kernel⟩ ?hw ?hc
  (case hw => w_witness2)
  intro w s₀ s₁ mg mb G Y fa o pm cd doc dV kV ho hd hcd hD hmg hg args vals as hpre hlay hrd hwl hlo
  refine Ground.open G ?_
  intro T B D TE TW
  wrow_args hpre hlay hrd hwl hlo
  clear Y G ho hd hcd hD B D TE TW
  rename_i script hs1 hlay0 hL1 hr1 hl2 as1 as2 a vs as3 hL ra w1 r0 hI hr hc1 hc2
  have hlen : Mine.LenOk script.length := by unfold Mine.LenOk; omega
  refine Mine.law_spec ⟨_, w, mg, mb⟩ script callerA [] s₁ _ _ fa _ hmg Mine.room_ok (Mine.base_of_top T (by kernel_rfl) (by decide +kernel)) (fun b hb => nomatch hb) ⟨⟨a, rfl, (fun hm => nomatch hm), hlen, _, hL, by simpa using hI⟩, trivial⟩ fun val s' k r => ?_
  have e : val = .bool true := r
  subst e
  obtain ⟨h, t, rfl, k⟩ := k
  exact GoodW.toG ⟨.inl ⟨.bool true, .bool true, [], rfl, raisesW_false (by wrow_none_raised), .bool true, (by wrow_post), fun _ => ⟨List.nodup_nil, fun _ hm => nomatch hm⟩⟩, k, rfl, hg⟩
