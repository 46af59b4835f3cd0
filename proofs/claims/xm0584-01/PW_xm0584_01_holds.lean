import PyProof.Rows.All
import Wide.All
import OpenK.AllK
import Wide.FinOn
import PySem.Challenge.RW_xm0584_01
open PySem PySem.W PyProof.Rows
set_option Elab.async false
set_option maxRecDepth 100000
set_option linter.unusedVariables false

namespace Mine

inductive Sc where
  | int (i : Int)
  | bool (b : Bool)
  deriving DecidableEq

inductive PV where
  | none
  | bool (b : Bool)
  | int (i : Int)
  | str (x : Str)
  | tup (vs : List PV)
  | lst (vs : List PV)
  | dct (kvs : List (Int × Sc))
  | rng (n : Int)
  | ref (a : Addr)

inductive PObj where
  | list (vs : List PV)
  | dict (kvs : List (Int × Sc))
  | inst (C : Addr) (fs : List (Str × PV))
  | hid

abbrev Store := Addr → Option PObj
def upd (σ : Store) (a : Addr) (o : PObj) : Store := fun b => if b = a then some o else σ b
def era (σ : Store) (a : Addr) : Store := fun b => if b = a then none else σ b

structure Ctx where
  prog : Program
  w : World
  h₀ : Heap
  mg : Str → Option Value
  mb : Str → Option Value

def ScVal (v : Value) : Sc → Prop
  | .int i => ∃ t, v = .int i t
  | .bool b => v = .bool b

inductive ScAll : List (Int × Value) → List (Int × Sc) → Prop
  | nil : ScAll [] []
  | cons {k : Int} {v : Value} {c : Sc} {l : List (Int × Value)} {m : List (Int × Sc)} : ScVal v c → ScAll l m → ScAll ((k, v) :: l) ((k, c) :: m)

def DictR (C : Ctx) (h : Heap) (a : Addr) (kvs : List (Int × Sc)) : Prop :=
  ∃ l, h.DictOf (intKind C.prog C.w) a l ∧ ScAll l kvs ∧ (a == sysModules) = false

/-- the private addresses: frames, cells, iterators, lists that are being built -/
abbrev Priv := Addr → Prop

def Free (σ : Store) (π : Priv) (a : Addr) : Prop := σ a = none ∧ ¬ π a

mutual
inductive RV (C : Ctx) (h : Heap) (σ : Store) (π : Priv) : Value → PV → Prop
  | none : RV C h σ π .none .none
  | bool (b : Bool) : RV C h σ π (.bool b) (.bool b)
  | int (i : Int) (t : Tok) : RV C h σ π (.int i t) (.int i)
  | str (x : Str) (t : Tok) : RV C h σ π (.str x t) (.str x)
  | tup {a : Addr} {vs : List Value} {n : Nat} {ps : List PV} : IsT h a vs.toArray n → Free σ π a → RVs C h σ π vs ps → RV C h σ π (.ref a) (.tup ps)
  | lst {a : Addr} {vs : List Value} {n : Nat} {ps : List PV} : IsL h a vs.toArray n → Free σ π a → RVs C h σ π vs ps → RV C h σ π (.ref a) (.lst ps)
  | dct {a : Addr} {kvs : List (Int × Sc)} : DictR C h a kvs → Free σ π a → RV C h σ π (.ref a) (.dct kvs)
  | rng {a : Addr} {n : Int} {t u v : Tok} : IsRange h a 0 n 1 t u v → Free σ π a → RV C h σ π (.ref a) (.rng n)
  | ref (a : Addr) : RV C h σ π (.ref a) (.ref a)
inductive RVs (C : Ctx) (h : Heap) (σ : Store) (π : Priv) : List Value → List PV → Prop
  | nil : RVs C h σ π [] []
  | cons {v : Value} {p : PV} {vs : List Value} {ps : List PV} : RV C h σ π v p → RVs C h σ π vs ps → RVs C h σ π (v :: vs) (p :: ps)
end

/-- what an evaluation may do to the heap -/
structure Adv (own : Addr → Prop) (σ : Store) (π : Priv) (h : Heap) (σ' : Store) (π' : Priv) (h' : Heap) : Prop where
  keep : ∀ b o, h.get? b = some o → (Free σ π b ∨ (π b ∧ ¬ own b)) → h'.get? b = some o
  fresh : ∀ b, Free σ π b → ¬ Free σ' π' b → h.get? b = none
  priv : ∀ b, π b → π' b

theorem Adv.refl (own : Addr → Prop) (σ : Store) (π : Priv) (h : Heap) : Adv own σ π h σ π h :=
  ⟨fun _ _ e _ => e, fun _ a b => absurd a b, fun _ e => e⟩

theorem Adv.trans {own : Addr → Prop} {σ σ₁ σ₂ : Store} {π π₁ π₂ : Priv} {h h₁ h₂ : Heap} (x : Adv own σ π h σ₁ π₁ h₁) (y : Adv own σ₁ π₁ h₁ σ₂ π₂ h₂) : Adv own σ π h σ₂ π₂ h₂ := by
  refine ⟨fun b o e hb => ?_, fun b hf hn => ?_, fun b e => y.priv b (x.priv b e)⟩
  · have e1 := x.keep b o e hb
    rcases hb with hb | hb
    · by_cases q : Free σ₁ π₁ b
      · exact y.keep b o e1 (.inl q)
      · have := x.fresh b hb q
        rw [e] at this; cases this
    · exact y.keep b o e1 (.inr ⟨x.priv b hb.1, hb.2⟩)
  · by_cases q : Free σ₁ π₁ b
    · have z := y.fresh b q hn
      cases e : h.get? b with
      | none => rfl
      | some o => rw [x.keep b o e (.inl hf)] at z; cases z
    · exact x.fresh b hf q

theorem Adv.free {own : Addr → Prop} {σ σ' : Store} {π π' : Priv} {h h' : Heap} (x : Adv own σ π h σ' π' h') {b : Addr} {o : Obj} (hf : Free σ π b) (e : h.get? b = some o) : Free σ' π' b := by
  by_cases q : Free σ' π' b
  · exact q
  · have := x.fresh b hf q
    rw [e] at this; cases this

theorem Adv.weaken {own own' : Addr → Prop} {σ σ' : Store} {π π' : Priv} {h h' : Heap} (x : Adv own σ π h σ' π' h') (ho : ∀ b, π b → own b → own' b) : Adv own' σ π h σ' π' h' :=
  ⟨fun b o e hb => x.keep b o e (hb.imp id fun q => ⟨q.1, fun z => q.2 (ho b q.1 z)⟩), x.fresh, x.priv⟩

abbrev noOwn : Addr → Prop := fun _ => False
theorem Adv.own {own : Addr → Prop} {σ σ' : Store} {π π' : Priv} {h h' : Heap} (x : Adv noOwn σ π h σ' π' h') : Adv own σ π h σ' π' h' := x.weaken fun _ _ z => z.elim

theorem ScAll.refl_len {l : List (Int × Value)} {m : List (Int × Sc)} (h : ScAll l m) : l.length = m.length := by
  induction h with
  | nil => rfl
  | cons _ _ ih => simp [ih]

theorem DictR.at {C : Ctx} {h h' : Heap} {a : Addr} {kvs : List (Int × Sc)} (x : DictR C h a kvs) (hk : ∀ o, h.get? a = some o → h'.get? a = some o) : DictR C h' a kvs := by
  obtain ⟨l, ⟨o, es, ep, ho, r⟩, hs⟩ := x
  exact ⟨l, ⟨o, es, ep, hk o ho, r⟩, hs⟩

theorem DictR.get {C : Ctx} {h : Heap} {a : Addr} {kvs : List (Int × Sc)} (x : DictR C h a kvs) : ∃ o, h.get? a = some o := by
  obtain ⟨l, ⟨o, es, ep, ho, r⟩, hs⟩ := x
  exact ⟨o, ho⟩

section
variable {C : Ctx} {h h' : Heap} {σ σ' : Store} {π π' : Priv}
mutual
theorem RV.mono (hk : ∀ b o, h.get? b = some o → Free σ π b → h'.get? b = some o ∧ Free σ' π' b) : ∀ {v : Value} {p : PV}, RV C h σ π v p → RV C h' σ' π' v p
  | _, _, .none => .none
  | _, _, .bool b => .bool b
  | _, _, .int i t => .int i t
  | _, _, .str x t => .str x t
  | _, _, .tup x f r => .tup (hk _ _ x f).1 (hk _ _ x f).2 (RVs.mono hk r)
  | _, _, .lst x f r => .lst (hk _ _ x f).1 (hk _ _ x f).2 (RVs.mono hk r)
  | _, _, .dct x f => by
    obtain ⟨o, ho⟩ := x.get
    exact .dct (x.at fun o' e => (hk _ o' e f).1) (hk _ o ho f).2
  | _, _, .rng x f => .rng (hk _ _ x f).1 (hk _ _ x f).2
  | _, _, .ref a => .ref a
theorem RVs.mono (hk : ∀ b o, h.get? b = some o → Free σ π b → h'.get? b = some o ∧ Free σ' π' b) : ∀ {vs : List Value} {ps : List PV}, RVs C h σ π vs ps → RVs C h' σ' π' vs ps
  | _, _, .nil => .nil
  | _, _, .cons x r => .cons (RV.mono hk x) (RVs.mono hk r)
end
theorem RV.adv {own : Addr → Prop} (x : Adv own σ π h σ' π' h') {v : Value} {p : PV} (r : RV C h σ π v p) : RV C h' σ' π' v p :=
  r.mono fun b o e f => ⟨x.keep b o e (.inl f), x.free f e⟩
theorem RVs.adv {own : Addr → Prop} (x : Adv own σ π h σ' π' h') {v : List Value} {p : List PV} (r : RVs C h σ π v p) : RVs C h' σ' π' v p :=
  r.mono fun b o e f => ⟨x.keep b o e (.inl f), x.free f e⟩
theorem RVs.length {vs : List Value} : ∀ {ps : List PV}, RVs C h σ π vs ps → vs.length = ps.length := by
  induction vs with
  | nil => intro ps r; cases r; rfl
  | cons v vs ih => intro ps r; cases r with | cons x r => simp [ih r]
theorem RVs.getElem? {vs : List Value} : ∀ {ps : List PV}, RVs C h σ π vs ps → ∀ {i : Nat} {p : PV}, ps[i]? = some p → ∃ v, vs[i]? = some v ∧ RV C h σ π v p := by
  induction vs with
  | nil => intro ps r i p e; cases r; cases e
  | cons v vs ih =>
    intro ps r i p e
    cases r with
    | cons x r =>
      cases i with
      | zero => cases e; exact ⟨v, rfl, x⟩
      | succ i => exact ih r (by simpa using e)
theorem RVs.append {vs us : List Value} : ∀ {ps qs : List PV}, RVs C h σ π vs ps → RVs C h σ π us qs → RVs C h σ π (vs ++ us) (ps ++ qs) := by
  induction vs with
  | nil => intro ps qs r q; cases r; exact q
  | cons v vs ih => intro ps qs r q; cases r with | cons x r => exact .cons x (ih r q)
theorem RVs.take {vs : List Value} : ∀ {ps : List PV}, RVs C h σ π vs ps → ∀ n : Nat, RVs C h σ π (vs.take n) (ps.take n) := by
  induction vs with
  | nil => intro ps r n; cases r; simpa using RVs.nil
  | cons v vs ih => intro ps r n; cases r with | cons x r => cases n with | zero => exact .nil | succ n => exact .cons x (ih r n)
theorem RVs.drop {vs : List Value} : ∀ {ps : List PV}, RVs C h σ π vs ps → ∀ n : Nat, RVs C h σ π (vs.drop n) (ps.drop n) := by
  induction vs with
  | nil => intro ps r n; cases r; simpa using RVs.nil
  | cons v vs ih => intro ps r n; cases r with | cons x r => cases n with | zero => exact .cons x r | succ n => exact ih r n
end

def instFields (C : Ctx) (h : Heap) (σ : Store) (π : Priv) (fs : List (Str × PV)) (m : Str → Option Value) : Prop :=
  ∀ x, (match fs.lookup x with | some p => ∃ v, m x = some v ∧ RV C h σ π v p | none => m x = none)

/-- the names of an object's own dict, k of them at most -/
def NsLe (h : Heap) (a : Addr) (m : Str → Option Value) (k : Nat) : Prop :=
  ∃ o es ep, h.get? a = some o ∧ o.data = .dict es ep ∧ StrKeys es ∧ (∀ name, nsFind es name = m name) ∧ es.size ≤ k

def RO (C : Ctx) (h : Heap) (σ : Store) (π : Priv) (a : Addr) : PObj → Prop
  | .list ps => ∃ vs n, IsL h a vs.toArray n ∧ RVs C h σ π vs ps
  | .dict kvs => DictR C h a kvs
  | .inst K fs => ∃ d m, h.get? a = some (instObj K d) ∧ σ d = some .hid ∧ NsLe h d m fs.length ∧ instFields C h σ π fs m
  | .hid => ∃ o, h.get? a = some o

theorem RO.get {C : Ctx} {h : Heap} {σ : Store} {π : Priv} {a : Addr} {o : PObj} (x : RO C h σ π a o) : ∃ ob, h.get? a = some ob := by
  cases o with
  | list ps => obtain ⟨vs, n, e, _⟩ := x; exact ⟨_, e⟩
  | dict kvs => exact DictR.get x
  | inst K fs => obtain ⟨d, m, e, _⟩ := x; exact ⟨_, e⟩
  | hid => exact x

structure BaseS (C : Ctx) (σ : Store) (π : Priv) (h : Heap) : Prop where
  base : ∀ b o, C.h₀.get? b = some o → h.get? b = some o
  store : ∀ a o, σ a = some o → RO C h σ π a o ∧ C.h₀.get? a = none ∧ ¬ π a
  priv : ∀ a, π a → C.h₀.get? a = none ∧ ∃ o, h.get? a = some o



def Lv (A : Around) (n : Nat) : Prop := A.handled = none ∧ A.depth + 2 * n ≤ 900 ∧ A.units + 16 * n + 400 ≤ 9900

structure Ctx.Ok (C : Ctx) : Prop where
  g : C.h₀.Ns mainGlobals C.mg
  b : C.h₀.Ns builtinsNs C.mb
  nolimit : C.h₀.NoLimit
  builtins : ∀ x : Str, x ≠ "__name__" → C.mb x = bootBuiltins x
  free : ∀ x ∈ (["max", "int", "len", "list", "tuple", "range", "dict", "sorted"] : List Str), C.mg x = none

/-- where a body runs: n levels of room, kt the table of its names -/
structure Cx (C : Ctx) (n : Nat) (kt : List (Str × NameKind)) where
  A : Around
  env : Env
  own : Addr → Prop
  ok : C.Ok
  lv : Lv A n
  kind : env.scope.kind = .function
  names : ∀ x, env.kindOf x = kt.lookup x
  globals : env.globals = mainGlobals
  builtins : env.builtins = builtinsNs
  ownL : own env.locals
  mayC : Prop
  ownC : mayC → ∀ n c, kt.lookup n = some .cell → env.cells.lookup n = some c → own c
  hasC : ∀ n, kt.lookup n = some .cell → ∃ c, env.cells.lookup n = some c
  apart : mayC → env.cells.Pairwise fun x y => x.2 ≠ y.2

abbrev Loc := List (Str × PV)
def get (ρ : Loc) (x : Str) : Option PV := ρ.lookup x

section
variable {C : Ctx} {n : Nat} {kt : List (Str × NameKind)}

structure Sim (X : Cx C n kt) (ρ : Loc) (σ : Store) (π : Priv) (h : Heap) : Prop where
  base : BaseS C σ π h
  ns : ∃ m, h.Ns X.env.locals m ∧ ∀ x p, get ρ x = some p → kt.lookup x = some .local → ∃ v, m x = some v ∧ RV C h σ π v p
  privL : π X.env.locals
  ownπ : ∀ a, X.own a → π a
  cells : ∀ n c, X.env.cells.lookup n = some c → π c ∧ c ≠ X.env.locals ∧ ∃ v, h.IsCell c v ∧ ∀ p, get ρ n = some p → (kt.lookup n = some .cell ∨ kt.lookup n = some .free) → ∃ w, v = some w ∧ RV C h σ π w p

def Same (s s' : Shared) : Prop := s'.gens = s.gens ∧ s'.os = s.os ∧ s'.drawn = s.drawn
theorem Same.refl (s : Shared) : Same s s := ⟨rfl, rfl, rfl⟩
theorem Same.trans {a b c : Shared} (x : Same a b) (y : Same b c) : Same a c := ⟨y.1.trans x.1, y.2.1.trans x.2.1, y.2.2.trans x.2.2⟩

abbrev Cx.M (_X : Cx C n kt) : Model := model C.prog C.w
def F0 : Value → Shared → Prop := fun _ _ => False

/-- after an evaluation from s with store σ, private π -/
def PostE (X : Cx C n kt) (ρ : Loc) (σ : Store) (π : Priv) (s : Shared) (P : PV → Store → Prop) : Value → Shared → Prop :=
  fun v s' => ∃ p σ' π', RV C s'.heap σ' π' v p ∧ Sim X ρ σ' π' s'.heap ∧ Adv noOwn σ π s.heap σ' π' s'.heap ∧ Same s s' ∧ P p σ'

/-- any tree of a value -/
def WpT (X : Cx C n kt) (t : Sem Value) (ρ : Loc) (σ : Store) (P : PV → Store → Prop) : Prop :=
  ∀ s π, Sim X ρ σ π s.heap → wpAny X.M X.A t (PostE X ρ σ π s P) F0 s

def WpE (X : Cx C n kt) (e : Expr) (ρ : Loc) (σ : Store) (P : PV → Store → Prop) : Prop := WpT X (eval e X.env) ρ σ P

def PostB (X : Cx C n kt) (ρ : Loc) (σ : Store) (π : Priv) (s : Shared) (P : Bool → Store → Prop) : Bool → Shared → Prop :=
  fun b s' => ∃ σ' π', Sim X ρ σ' π' s'.heap ∧ Adv noOwn σ π s.heap σ' π' s'.heap ∧ Same s s' ∧ P b σ'
def WpB (X : Cx C n kt) (e : Expr) (ρ : Loc) (σ : Store) (P : Bool → Store → Prop) : Prop :=
  ∀ s π, Sim X ρ σ π s.heap → wpAny X.M X.A (isTrue e X.env (eval e X.env)) (PostB X ρ σ π s P) F0 s
def WpA (X : Cx C n kt) (op : BoolOp) (es : List Expr) (ρ : Loc) (σ : Store) (P : Bool → Store → Prop) : Prop :=
  ∀ s π, Sim X ρ σ π s.heap → wpAny X.M X.A (allTrue op es X.env) (PostB X ρ σ π s P) F0 s

def PostEs (X : Cx C n kt) (ρ : Loc) (σ : Store) (π : Priv) (s : Shared) (P : List PV → Store → Prop) : List Value → Shared → Prop :=
  fun vs s' => ∃ ps σ' π', RVs C s'.heap σ' π' vs ps ∧ Sim X ρ σ' π' s'.heap ∧ Adv noOwn σ π s.heap σ' π' s'.heap ∧ Same s s' ∧ P ps σ'

/-- a list of expressions, left to right (arguments, items of a display) -/
def WpEs (X : Cx C n kt) (pos : Pos) (es : List Expr) (ρ : Loc) (σ : Store) (P : List PV → Store → Prop) : Prop :=
  ∀ s π, Sim X ρ σ π s.heap → wpAny X.M X.A (spliced (backTo pos (starEach es X.env))) (PostEs X ρ σ π s P) F0 s

/-- a tree over values that stand for p -/
def Op1 (X : Cx C n kt) (f : Value → Sem Value) (p : PV) (ρ : Loc) (σ : Store) (P : PV → Store → Prop) : Prop :=
  ∀ s π v, Sim X ρ σ π s.heap → RV C s.heap σ π v p → wpAny X.M X.A (f v) (PostE X ρ σ π s P) F0 s
def Op2 (X : Cx C n kt) (f : Value → Value → Sem Value) (p q : PV) (ρ : Loc) (σ : Store) (P : PV → Store → Prop) : Prop :=
  ∀ s π v u, Sim X ρ σ π s.heap → RV C s.heap σ π v p → RV C s.heap σ π u q → wpAny X.M X.A (f v u) (PostE X ρ σ π s P) F0 s
def OpN (X : Cx C n kt) (f : List Value → Sem Value) (ps : List PV) (ρ : Loc) (σ : Store) (P : PV → Store → Prop) : Prop :=
  ∀ s π vs, Sim X ρ σ π s.heap → RVs C s.heap σ π vs ps → wpAny X.M X.A (f vs) (PostE X ρ σ π s P) F0 s

/-- statements: Qn where it goes on, Qr where it returns -/
def PostS (X : Cx C n kt) (σ : Store) (π : Priv) (s : Shared) (Qn : Loc → Store → Prop) (Qr : PV → Store → Prop) : Flow → Shared → Prop :=
  fun f s' => ∃ ρ' σ' π', Sim X ρ' σ' π' s'.heap ∧ Adv X.own σ π s.heap σ' π' s'.heap ∧ Same s s' ∧
    match f with
    | .next => Qn ρ' σ'
    | .ret v => ∃ p, RV C s'.heap σ' π' v p ∧ Qr p σ'
    | _ => False
def WpX (X : Cx C n kt) (st : Stmt) (ρ : Loc) (σ : Store) (Qn : Loc → Store → Prop) (Qr : PV → Store → Prop) : Prop :=
  ∀ s π, Sim X ρ σ π s.heap → wpAny X.M X.A (exec st X.env) (PostS X σ π s Qn Qr) F0 s
def WpS (X : Cx C n kt) (ss : List Stmt) (ρ : Loc) (σ : Store) (Qn : Loc → Store → Prop) (Qr : PV → Store → Prop) : Prop :=
  ∀ s π, Sim X ρ σ π s.heap → wpAny X.M X.A (execs ss X.env) (PostS X σ π s Qn Qr) F0 s

/-- a def's contract: a call at any frame, n levels of room -/
def FnW (C : Ctx) (n : Nat) (a : Addr) (ps : List PV) (σ : Store) (P : PV → Store → Prop) : Prop :=
  ∀ A s π vs, Lv A n → BaseS C σ π s.heap → RVs C s.heap σ π vs ps →
    wpAny (model C.prog C.w) A (call (.ref a) vs)
      (fun v s' => ∃ p σ' π', RV C s'.heap σ' π' v p ∧ BaseS C σ' π' s'.heap ∧ Adv noOwn σ π s.heap σ' π' s'.heap ∧ Same s s' ∧ P p σ') F0 s
def Fn (C : Ctx) (f : Str) (n : Nat) (ps : List PV) (σ : Store) (P : PV → Store → Prop) : Prop :=
  ∀ a, C.mg f = some (.ref a) → FnW C n a ps σ P

/-- an assignment to a target -/
def PostA (X : Cx C n kt) (σ : Store) (π : Priv) (s : Shared) (Q : Loc → Store → Prop) : Unit → Shared → Prop :=
  fun _ s' => ∃ ρ' σ' π', Sim X ρ' σ' π' s'.heap ∧ Adv X.own σ π s.heap σ' π' s'.heap ∧ Same s s' ∧ Q ρ' σ'
def AsW (X : Cx C n kt) (t : Expr) (p : PV) (ρ : Loc) (σ : Store) (Q : Loc → Store → Prop) : Prop :=
  ∀ s π v, Sim X ρ σ π s.heap → RV C s.heap σ π v p → wpAny X.M X.A (assign t X.env v) (PostA X σ π s Q) F0 s
end

section
variable {C : Ctx} {n : Nat} {kt : List (Str × NameKind)} {X : Cx C n kt} {ρ ρ' : Loc} {σ σ' : Store} {π π' : Priv} {s s' : Shared} {P P' : PV → Store → Prop}

theorem PostE.after {s₁ : Shared} {σ₁ : Store} {π₁ : Priv} {v : Value} (a : Adv noOwn σ π s.heap σ₁ π₁ s₁.heap) (m : Same s s₁) (x : PostE X ρ σ₁ π₁ s₁ P v s') : PostE X ρ σ π s P v s' := by
  obtain ⟨p, σ', π', r, i, d, e, h⟩ := x
  exact ⟨p, σ', π', r, i, a.trans d, m.trans e, h⟩
theorem PostB.after {s₁ : Shared} {σ₁ : Store} {π₁ : Priv} {v : Bool} {P : Bool → Store → Prop} (a : Adv noOwn σ π s.heap σ₁ π₁ s₁.heap) (m : Same s s₁) (x : PostB X ρ σ₁ π₁ s₁ P v s') : PostB X ρ σ π s P v s' := by
  obtain ⟨σ', π', i, d, e, h⟩ := x
  exact ⟨σ', π', i, a.trans d, m.trans e, h⟩
theorem PostEs.after {s₁ : Shared} {σ₁ : Store} {π₁ : Priv} {v : List Value} {P : List PV → Store → Prop} (a : Adv noOwn σ π s.heap σ₁ π₁ s₁.heap) (m : Same s s₁) (x : PostEs X ρ σ₁ π₁ s₁ P v s') : PostEs X ρ σ π s P v s' := by
  obtain ⟨p, σ', π', r, i, d, e, h⟩ := x
  exact ⟨p, σ', π', r, i, a.trans d, m.trans e, h⟩
theorem PostS.after {s₁ : Shared} {σ₁ : Store} {π₁ : Priv} {f : Flow} {Qn : Loc → Store → Prop} {Qr : PV → Store → Prop} (a : Adv X.own σ π s.heap σ₁ π₁ s₁.heap) (m : Same s s₁) (x : PostS X σ₁ π₁ s₁ Qn Qr f s') : PostS X σ π s Qn Qr f s' := by
  obtain ⟨p, σ', π', i, d, e, h⟩ := x
  exact ⟨p, σ', π', i, a.trans d, m.trans e, h⟩
theorem PostA.after {s₁ : Shared} {σ₁ : Store} {π₁ : Priv} {u : Unit} {Q : Loc → Store → Prop} (a : Adv X.own σ π s.heap σ₁ π₁ s₁.heap) (m : Same s s₁) (x : PostA X σ₁ π₁ s₁ Q u s') : PostA X σ π s Q u s' := by
  obtain ⟨p, σ', π', i, d, e, h⟩ := x
  exact ⟨p, σ', π', i, a.trans d, m.trans e, h⟩

theorem PostE.mk {v : Value} {p : PV} (r : RV C s'.heap σ' π' v p) (i : Sim X ρ σ' π' s'.heap) (d : Adv noOwn σ π s.heap σ' π' s'.heap) (e : Same s s') (h : P p σ') : PostE X ρ σ π s P v s' := ⟨p, σ', π', r, i, d, e, h⟩

/-- an answer that changes nothing but the tokens -/
theorem PostE.tok {v : Value} {p : PV} {t : Nat} (i : Sim X ρ σ π s.heap) (r : RV C s.heap σ π v p) (h : P p σ) : PostE X ρ σ π s P v { s with toks := t } :=
  ⟨p, σ, π, r, i, Adv.refl _ _ _ _, ⟨rfl, rfl, rfl⟩, h⟩
theorem PostE.here {v : Value} {p : PV} (i : Sim X ρ σ π s.heap) (r : RV C s.heap σ π v p) (h : P p σ) : PostE X ρ σ π s P v s :=
  ⟨p, σ, π, r, i, Adv.refl _ _ _ _, ⟨rfl, rfl, rfl⟩, h⟩

theorem WpT.mono {t : Sem Value} (h : WpT X t ρ σ P) (k : ∀ p σ, P p σ → P' p σ) : WpT X t ρ σ P' := fun s π i =>
  wpAny_mono (h s π i) (fun v s' x => by obtain ⟨p, σ', π', a, b, c, d, e⟩ := x; exact ⟨p, σ', π', a, b, c, d, k _ _ e⟩) fun _ _ x => x
theorem Op1.mono {f : Value → Sem Value} {p : PV} (h : Op1 X f p ρ σ P) (k : ∀ p σ, P p σ → P' p σ) : Op1 X f p ρ σ P' := fun s π v i r =>
  wpAny_mono (h s π v i r) (fun v s' x => by obtain ⟨p, σ', π', a, b, c, d, e⟩ := x; exact ⟨p, σ', π', a, b, c, d, k _ _ e⟩) fun _ _ x => x
theorem Op2.mono {f : Value → Value → Sem Value} {p q : PV} (h : Op2 X f p q ρ σ P) (k : ∀ p σ, P p σ → P' p σ) : Op2 X f p q ρ σ P' := fun s π v u i r r' =>
  wpAny_mono (h s π v u i r r') (fun v s' x => by obtain ⟨p, σ', π', a, b, c, d, e⟩ := x; exact ⟨p, σ', π', a, b, c, d, k _ _ e⟩) fun _ _ x => x

theorem bind1 {t : Sem Value} {f : Value → Sem Value} (h : WpT X t ρ σ fun p σ₁ => Op1 X f p ρ σ₁ P) (i : Sim X ρ σ π s.heap) :
    wpAny X.M X.A t (fun v s₁ => wpAny X.M X.A (f v) (PostE X ρ σ π s P) F0 s₁) F0 s :=
  wpAny_mono (h s π i) (fun v s₁ x => by
    obtain ⟨p, σ₁, π₁, a, b, c, d, e⟩ := x
    exact wpAny_mono (e s₁ π₁ v b a) (fun w s₂ y => y.after c d) fun _ _ x => x) fun _ _ x => x
theorem bind2 {t u : Sem Value} {f : Value → Value → Sem Value} (h : WpT X t ρ σ fun p σ₁ => WpT X u ρ σ₁ fun q σ₂ => Op2 X f p q ρ σ₂ P) (i : Sim X ρ σ π s.heap) :
    wpAny X.M X.A t (fun v s₁ => wpAny X.M X.A u (fun w s₂ => wpAny X.M X.A (f v w) (PostE X ρ σ π s P) F0 s₂) F0 s₁) F0 s :=
  wpAny_mono (h s π i) (fun v s₁ x => by
    obtain ⟨p, σ₁, π₁, a, b, c, d, e⟩ := x
    exact wpAny_mono (e s₁ π₁ b) (fun w s₂ y => by
      obtain ⟨q, σ₂, π₂, a', b', c', d', e'⟩ := y
      exact wpAny_mono (e' s₂ π₂ v w b' (a.adv c') a') (fun z s₃ y => y.after (c.trans c') (d.trans d')) fun _ _ x => x) fun _ _ x => x) fun _ _ x => x

-- names and constants
theorem e_local {x : Str} {pos : Pos} {p : PV} (hk : kt.lookup x = some .local) (hv : get ρ x = some p) (h : P p σ) (hd : (x == ("__debug__" : Str)) = false := by decide) : WpE X (.Name x pos) ρ σ P := fun s π i => by
  obtain ⟨m, hn, hm⟩ := i.ns
  obtain ⟨v, hv', r⟩ := hm x p hv hk
  exact wpAny_Name (wpAny_loadName_local X.kind ((X.names x).trans hk) hn hv' (.here i r h)) hd
theorem e_cell {x : Str} {pos : Pos} {p : PV} (hk : kt.lookup x = some .cell) (hv : get ρ x = some p) (h : P p σ) (hd : (x == ("__debug__" : Str)) = false := by decide) : WpE X (.Name x pos) ρ σ P := fun s π i => by
  obtain ⟨c, hc⟩ := X.hasC x hk
  obtain ⟨_, _, v, hv', hp⟩ := i.cells x c hc
  obtain ⟨w, rfl, r⟩ := hp p hv (.inl hk)
  exact wpAny_Name (wpAny_loadName_cell X.kind ((X.names x).trans hk) hc hv' (.here i r h)) hd
theorem e_int {i : Int} {k : Nat} {pos : Pos} (h : P (.int i) σ) : WpE X (.Constant (.int i) k pos) ρ σ P := fun s π i' => wpAny_Constant_int (.tok i' (.int _ _) h)
theorem e_str {x : Str} {k : Nat} {pos : Pos} (h : P (.str x) σ) : WpE X (.Constant (.str x) k pos) ρ σ P := fun s π i' => wpAny_Constant_str (.tok i' (.str _ _) h)
theorem e_bool {b : Bool} {k : Nat} {pos : Pos} (h : P (.bool b) σ) : WpE X (.Constant (.bool b) k pos) ρ σ P := fun s π i' => wpAny_Constant_bool (.here i' (.bool _) h)
theorem e_none {k : Nat} {pos : Pos} (h : P .none σ) : WpE X (.Constant .none k pos) ρ σ P := fun s π i' => wpAny_Constant_none (.here i' .none h)

theorem e_bin {l r : Expr} {op : Operator} {pos : Pos} (h : WpE X l ρ σ fun p σ₁ => WpE X r ρ σ₁ fun q σ₂ => Op2 X (binaryOp op) p q ρ σ₂ P) : WpE X (.BinOp l op r pos) ρ σ P := fun _ _ i => wpAny_BinOp (bind2 h i)
theorem e_cmp {l r : Expr} {op : CmpOp} {pos : Pos} (h : WpE X l ρ σ fun p σ₁ => WpE X r ρ σ₁ fun q σ₂ => Op2 X (compareOp op) p q ρ σ₂ P) (hm : behindInMarks op r = false := by with_unfolding_all rfl) :
    WpE X (.Compare l [op] [r] pos) ρ σ P := fun _ _ i => wpAny_Compare1 (bind2 h i) hm
theorem e_un {x : Expr} {op : UnaryOp} {pos : Pos} (h : WpE X x ρ σ fun p σ₁ => Op1 X (unaryOp op) p ρ σ₁ P) : WpE X (.UnaryOp op x pos) ρ σ P := fun _ _ i => wpAny_UnaryOp (bind1 h i)

-- tests
def TruthW (X : Cx C n kt) (p : PV) (ρ : Loc) (σ : Store) (P : Bool → Store → Prop) : Prop :=
  ∀ s π v, Sim X ρ σ π s.heap → RV C s.heap σ π v p → wpAny X.M X.A (truthy v) (PostB X ρ σ π s P) F0 s
theorem truth_bool {b : Bool} {P : Bool → Store → Prop} (h : P b σ) : TruthW X (.bool b) ρ σ P := fun s π v i r => by
  cases r
  exact wpAny_truthy_bool ⟨σ, π, i, Adv.refl _ _ _ _, Same.refl _, h⟩
theorem b_cmp {l r : Expr} {op : CmpOp} {pos : Pos} {P : Bool → Store → Prop} (h : WpE X l ρ σ fun p σ₁ => WpE X r ρ σ₁ fun q σ₂ => Op2 X (compareOp op) p q ρ σ₂ fun c σ₃ => TruthW X c ρ σ₃ P) (hm : behindInMarks op r = false := by with_unfolding_all rfl) :
    WpB X (.Compare l [op] [r] pos) ρ σ P := fun s π i => by
  refine wpAny_isTrue_Compare1 (wpAny_mono (h s π i) (fun v s₁ x => ?_) fun _ _ x => x) hm
  obtain ⟨p, σ₁, π₁, a, b, c, d, e⟩ := x
  refine wpAny_mono (e s₁ π₁ b) (fun w s₂ y => ?_) fun _ _ x => x
  obtain ⟨q, σ₂, π₂, a', b', c', d', e'⟩ := y
  refine wpAny_mono (e' s₂ π₂ v w b' (a.adv c') a') (fun z s₃ y => ?_) fun _ _ x => x
  obtain ⟨q, σ₃, π₃, a'', b'', c'', d'', e''⟩ := y
  exact wpAny_mono (e'' s₃ π₃ z b'' a'') (fun z s₃ y => y.after ((c.trans c').trans c'') ((d.trans d').trans d'')) fun _ _ x => x
theorem b_boolop {op : BoolOp} {es : List Expr} {pos : Pos} {P : Bool → Store → Prop} (h : WpA X op es ρ σ P) : WpB X (.BoolOp op es pos) ρ σ P := fun s π i => wpAny_isTrue_BoolOp (h s π i)
theorem a_and_nil {P : Bool → Store → Prop} (h : P true σ) : WpA X .And [] ρ σ P := fun s π i => wpAny_allTrue_And_nil ⟨σ, π, i, Adv.refl _ _ _ _, Same.refl _, h⟩
theorem a_or_nil {P : Bool → Store → Prop} (h : P false σ) : WpA X .Or [] ρ σ P := fun s π i => wpAny_allTrue_Or_nil ⟨σ, π, i, Adv.refl _ _ _ _, Same.refl _, h⟩
theorem a_and_cons {e : Expr} {es : List Expr} {P : Bool → Store → Prop} (h : WpB X e ρ σ fun b σ₁ => (b = true → WpA X .And es ρ σ₁ P) ∧ (b = false → P false σ₁)) : WpA X .And (e :: es) ρ σ P := fun s π i => by
  refine wpAny_allTrue_And_cons (wpAny_mono (h s π i) (fun b s₁ x => ?_) fun _ _ x => x)
  obtain ⟨σ₁, π₁, a, c, d, e⟩ := x
  cases b with
  | true => exact wpAny_mono (e.1 rfl s₁ π₁ a) (fun z s₃ y => y.after c d) fun _ _ x => x
  | false => exact ⟨σ₁, π₁, a, c, d, e.2 rfl⟩
theorem a_or_cons {e : Expr} {es : List Expr} {P : Bool → Store → Prop} (h : WpB X e ρ σ fun b σ₁ => (b = false → WpA X .Or es ρ σ₁ P) ∧ (b = true → P true σ₁)) : WpA X .Or (e :: es) ρ σ P := fun s π i => by
  refine wpAny_allTrue_Or_cons (wpAny_mono (h s π i) (fun b s₁ x => ?_) fun _ _ x => x)
  obtain ⟨σ₁, π₁, a, c, d, e⟩ := x
  cases b with
  | false => exact wpAny_mono (e.1 rfl s₁ π₁ a) (fun z s₃ y => y.after c d) fun _ _ x => x
  | true => exact ⟨σ₁, π₁, a, c, d, e.2 rfl⟩

theorem e_ifexp {t a b : Expr} {pos : Pos} (h : WpB X t ρ σ fun c σ₁ => (c = true → WpE X a ρ σ₁ P) ∧ (c = false → WpE X b ρ σ₁ P)) : WpE X (.IfExp t a b pos) ρ σ P := fun s π i => by
  refine wpAny_IfExp (wpAny_mono (h s π i) (fun b s₁ x => ?_) fun _ _ x => x)
  obtain ⟨σ₁, π₁, a, c, d, e⟩ := x
  cases b with
  | true => exact wpAny_mono (e.1 rfl s₁ π₁ a) (fun z s₃ y => y.after c d) fun _ _ x => x
  | false => exact wpAny_mono (e.2 rfl s₁ π₁ a) (fun z s₃ y => y.after c d) fun _ _ x => x

-- statements
theorem s_nil {Qn : Loc → Store → Prop} {Qr : PV → Store → Prop} (h : Qn ρ σ) : WpS X [] ρ σ Qn Qr := fun s π i => wpAny_execs_nil ⟨ρ, σ, π, i, Adv.refl _ _ _ _, Same.refl _, h⟩
theorem s_cons {st : Stmt} {ss : List Stmt} {Qn : Loc → Store → Prop} {Qr : PV → Store → Prop} (h : WpX X st ρ σ (fun ρ' σ' => WpS X ss ρ' σ' Qn Qr) Qr) : WpS X (st :: ss) ρ σ Qn Qr := fun s π i => by
  refine wpAny_execs_cons (wpAny_mono (h s π i) (fun f s₁ x => ?_) fun _ _ x => x)
  obtain ⟨ρ₁, σ₁, π₁, a, c, d, e⟩ := x
  cases f with
  | next => exact wpAny_mono (e s₁ π₁ a) (fun z s₃ y => y.after c d) fun _ _ x => x
  | ret v => exact ⟨ρ₁, σ₁, π₁, a, c, d, e⟩
  | brk => exact e.elim
  | cont => exact e.elim
theorem x_if {t : Expr} {b o : List Stmt} {pos : Pos} {Qn : Loc → Store → Prop} {Qr : PV → Store → Prop} (h : WpB X t ρ σ fun c σ₁ => (c = true → WpS X b ρ σ₁ Qn Qr) ∧ (c = false → WpS X o ρ σ₁ Qn Qr)) : WpX X (.If t b o pos) ρ σ Qn Qr := fun s π i => by
  refine wpAny_If (wpAny_mono (h s π i) (fun b s₁ x => ?_) fun _ _ x => x)
  obtain ⟨σ₁, π₁, a, c, d, e⟩ := x
  cases b with
  | true => exact wpAny_mono (e.1 rfl s₁ π₁ a) (fun z s₃ y => y.after c.own d) fun _ _ x => x
  | false => exact wpAny_mono (e.2 rfl s₁ π₁ a) (fun z s₃ y => y.after c.own d) fun _ _ x => x
theorem x_ret {e : Expr} {pos : Pos} {Qn : Loc → Store → Prop} {Qr : PV → Store → Prop} (h : WpE X e ρ σ Qr) : WpX X (.Return (some e) pos) ρ σ Qn Qr := fun s π i =>
  wpAny_Return_some (wpAny_mono (h s π i) (fun v s₁ x => by obtain ⟨p, σ', π', a, b, c, d, e⟩ := x; exact ⟨ρ, σ', π', b, c.own, d, p, a, e⟩) fun _ _ x => x)
end

section
variable {C : Ctx} {h h' : Heap} {σ σ' : Store} {π π' : Priv}

theorem instFields.mono {fs : List (Str × PV)} {m : Str → Option Value} (hk : ∀ b o, h.get? b = some o → Free σ π b → h'.get? b = some o ∧ Free σ' π' b) (x : instFields C h σ π fs m) : instFields C h' σ' π' fs m := fun y => by
  have q := x y
  cases e : fs.lookup y with
  | none => rw [e] at q; exact q
  | some p => rw [e] at q; obtain ⟨v, hv, r⟩ := q; exact ⟨v, hv, r.mono hk⟩

theorem RO.change {K : Addr → Prop} {a : Addr} {o : PObj} (x : RO C h σ π a o) (hk : ∀ b ob, h.get? b = some ob → ¬ K b → h'.get? b = some ob) (hK : ∀ b, K b → σ b ≠ some .hid)
    (hF : ∀ b o, h.get? b = some o → Free σ π b → ¬ K b ∧ Free σ' π' b) (ha : ¬ K a) (hhid : ∀ d, σ d = some .hid → σ' d = some .hid) : RO C h' σ' π' a o := by
  have hr : ∀ b o, h.get? b = some o → Free σ π b → h'.get? b = some o ∧ Free σ' π' b := fun b o e f => ⟨hk b o e (hF b o e f).1, (hF b o e f).2⟩
  cases o with
  | list ps => obtain ⟨vs, n, e, r⟩ := x; exact ⟨vs, n, hk _ _ e ha, r.mono hr⟩
  | dict kvs => exact DictR.at x fun o e => hk _ _ e ha
  | inst K' fs =>
    obtain ⟨d, m, e, hd, hn, hf⟩ := x
    have hKd : ¬ K d := fun z => hK d z hd
    exact ⟨d, m, hk _ _ e ha, hhid d hd, by obtain ⟨o, es, ep, ho, r⟩ := hn; exact ⟨o, es, ep, hk _ _ ho hKd, r⟩, hf.mono hr⟩
  | hid => obtain ⟨o, e⟩ := x; exact ⟨o, hk _ _ e ha⟩

theorem BaseS.change {K : Addr → Prop} (B : BaseS C σ π h) (hk : ∀ b ob, h.get? b = some ob → ¬ K b → h'.get? b = some ob) (hK : ∀ b, K b → σ b ≠ some .hid)
    (hF : ∀ b o, h.get? b = some o → Free σ π b → ¬ K b ∧ Free σ' π' b)
    (hσ : ∀ a o, σ' a = some o → (σ a = some o ∧ ¬ K a ∧ ¬ π' a) ∨ (RO C h' σ' π' a o ∧ C.h₀.get? a = none ∧ ¬ π' a))
    (hhid : ∀ d, σ d = some .hid → σ' d = some .hid)
    (hπ : ∀ a, π' a → (π a ∨ C.h₀.get? a = none) ∧ ∃ o, h'.get? a = some o) : BaseS C σ' π' h' := by
  refine ⟨fun b o e => ?_, fun a o e => ?_, fun a e => ?_⟩
  · have e1 := B.base b o e
    refine hk b o e1 (hF b o e1 ⟨?_, ?_⟩).1
    · cases q : σ b with
      | none => rfl
      | some ob => have := (B.store b ob q).2.1; rw [e] at this; cases this
    · intro q
      have := (B.priv b q).1; rw [e] at this; cases this
  · rcases hσ a o e with ⟨q, hKa, hp⟩ | q
    · have := B.store a o q
      exact ⟨this.1.change hk hK hF hKa hhid, this.2.1, hp⟩
    · exact q
  · have q := hπ a e
    exact ⟨q.1.elim (fun z => (B.priv a z).1) id, q.2⟩

theorem BaseS.fresh0 (B : BaseS C σ π h) {a : Addr} (e : h.get? a = none) : C.h₀.get? a = none := by
  cases q : C.h₀.get? a with
  | none => rfl
  | some o => rw [B.base a o q] at e; cases e
theorem BaseS.freshσ (B : BaseS C σ π h) {a : Addr} (e : h.get? a = none) : σ a = none := by
  cases q : σ a with
  | none => rfl
  | some o => obtain ⟨ob, he⟩ := (B.store a o q).1.get; rw [he] at e; cases e
theorem BaseS.freshπ (B : BaseS C σ π h) {a : Addr} (e : h.get? a = none) : ¬ π a := fun q => by
  obtain ⟨ob, he⟩ := (B.priv a q).2; rw [he] at e; cases e

/-- the heap grows: nothing else -/
theorem BaseS.grow (B : BaseS C σ π h) (hk : ∀ b o, h.get? b = some o → h'.get? b = some o) : BaseS C σ π h' :=
  B.change (K := fun _ => False) (fun b o e _ => hk b o e) (fun _ z => z.elim) (fun _ _ _ f => ⟨id, f⟩) (fun a o e => .inl ⟨e, id, (B.store a o e).2.2⟩) (fun _ e => e) fun a e => ⟨.inl e, by
    obtain ⟨o, ho⟩ := (B.priv a e).2; exact ⟨o, hk a o ho⟩⟩

/-- a new object that the program may change -/
theorem BaseS.newMut (B : BaseS C σ π h) {a : Addr} {o : PObj} (ha : h.get? a = none) (hk : ∀ b ob, h.get? b = some ob → h'.get? b = some ob) (ho : RO C h' (upd σ a o) π a o) : BaseS C (upd σ a o) π h' := by
  refine B.change (K := fun _ => False) (fun b ob e _ => hk b ob e) (fun _ z => z.elim) (fun b ob e f => ⟨id, ?_, f.2⟩) (fun b ob e => ?_) (fun d e => ?_) fun b e => ⟨.inl e, by
    obtain ⟨ob, hob⟩ := (B.priv b e).2; exact ⟨ob, hk b ob hob⟩⟩
  · show (if b = a then some o else σ b) = none
    rw [if_neg (fun z => by subst z; rw [ha] at e; cases e)]; exact f.1
  · by_cases z : b = a
    · subst z
      have : ob = o := by simpa [upd] using e.symm
      subst this
      exact .inr ⟨ho, B.fresh0 ha, B.freshπ ha⟩
    · have : σ b = some ob := by simpa [upd, z] using e
      exact .inl ⟨this, id, (B.store b ob this).2.2⟩
  · show (if d = a then some o else σ d) = _
    rw [if_neg (fun z => by subst z; rw [B.freshσ ha] at e; cases e)]; exact e

/-- a new private object -/
theorem BaseS.newPriv (B : BaseS C σ π h) {a : Addr} (ha : h.get? a = none) (hk : ∀ b ob, h.get? b = some ob → h'.get? b = some ob) (ho : ∃ ob, h'.get? a = some ob) : BaseS C σ (fun b => π b ∨ b = a) h' := by
  refine B.change (K := fun _ => False) (fun b ob e _ => hk b ob e) (fun _ z => z.elim) (fun b ob e f => ⟨id, f.1, ?_⟩) (fun b ob e => .inl ⟨e, id, ?_⟩) (fun d e => e) fun b e => ?_
  · rintro (z | z)
    · exact f.2 z
    · subst z; rw [ha] at e; cases e
  · rintro (z | z)
    · exact (B.store b ob e).2.2 z
    · subst z; rw [B.freshσ ha] at e; cases e
  · rcases e with e | rfl
    · obtain ⟨ob, hob⟩ := (B.priv b e).2
      exact ⟨.inl e, ob, hk b ob hob⟩
    · exact ⟨.inr (B.fresh0 ha), ho⟩

theorem Free.upd_of {a : Addr} {o : PObj} {b : Addr} (f : Free σ π b) (hb : b ≠ a) : Free (upd σ a o) π b := ⟨by show (if b = a then some o else σ b) = none; rw [if_neg hb]; exact f.1, f.2⟩

/-- an object of the store is changed -/
theorem BaseS.setMut (B : BaseS C σ π h) {a : Addr} {o o' : PObj} (ha : σ a = some o) (hh : o ≠ .hid) (hk : ∀ b ob, b ≠ a → h.get? b = some ob → h'.get? b = some ob) (ho : RO C h' (upd σ a o') π a o') : BaseS C (upd σ a o') π h' := by
  have hx := B.store a o ha
  refine B.change (K := fun b => b = a) (fun b ob e z => hk b ob z e) (fun b z => by subst z; rw [ha]; exact fun q => hh (Option.some.inj q)) (fun b ob e f => ?_) (fun b ob e => ?_) (fun d e => ?_) fun b e => ⟨.inl e, ?_⟩
  · have hb : b ≠ a := fun z => by subst z; have := f.1; rw [ha] at this; cases this
    exact ⟨hb, f.upd_of hb⟩
  · by_cases z : b = a
    · subst z
      have : ob = o' := by simpa [upd] using e.symm
      subst this
      exact .inr ⟨ho, hx.2.1, hx.2.2⟩
    · have : σ b = some ob := by simpa [upd, z] using e
      exact .inl ⟨this, z, (B.store b ob this).2.2⟩
  · show (if d = a then some o' else σ d) = _
    rw [if_neg (fun z => by subst z; rw [ha] at e; exact hh (Option.some.inj e))]; exact e
  · obtain ⟨ob, hob⟩ := (B.priv b e).2
    exact ⟨ob, hk b ob (fun z => hx.2.2 (z ▸ e)) hob⟩

/-- a private object is changed -/
theorem BaseS.setPriv (B : BaseS C σ π h) {a : Addr} (ha : π a) (hk : ∀ b ob, b ≠ a → h.get? b = some ob → h'.get? b = some ob) (ho : ∃ ob, h'.get? a = some ob) : BaseS C σ π h' := by
  refine B.change (K := fun b => b = a) (fun b ob e z => hk b ob z e) (fun b z => by subst z; exact fun q => (B.store _ _ q).2.2 ha) (fun b ob e f => ⟨fun z => f.2 (z ▸ ha), f⟩) (fun b ob e => .inl ⟨e, fun z => (B.store b ob e).2.2 (z ▸ ha), (B.store b ob e).2.2⟩) (fun d e => e) fun b e => ⟨.inl e, ?_⟩
  by_cases z : b = a
  · subst z; exact ho
  · obtain ⟨ob, hob⟩ := (B.priv b e).2
    exact ⟨ob, hk b ob z hob⟩

theorem Adv.grow {own : Addr → Prop} (hk : ∀ b o, h.get? b = some o → h'.get? b = some o) : Adv own σ π h σ π h' := ⟨fun b o e _ => hk b o e, fun b a q => absurd a q, fun _ e => e⟩
theorem Adv.newMut {own : Addr → Prop} {a : Addr} {o : PObj} (ha : h.get? a = none) (hk : ∀ b ob, h.get? b = some ob → h'.get? b = some ob) : Adv own σ π h (upd σ a o) π h' :=
  ⟨fun b o e _ => hk b o e, fun b f q => by
    by_cases z : b = a
    · subst z; exact ha
    · exact absurd (f.upd_of z) q, fun _ e => e⟩
theorem Adv.newPriv {own : Addr → Prop} {a : Addr} (ha : h.get? a = none) (hk : ∀ b ob, h.get? b = some ob → h'.get? b = some ob) : Adv own σ π h σ (fun b => π b ∨ b = a) h' :=
  ⟨fun b o e _ => hk b o e, fun b f q => by
    by_cases z : b = a
    · subst z; exact ha
    · exact absurd ⟨f.1, fun w => w.elim f.2 z⟩ q, fun _ e => .inl e⟩
theorem Adv.setMut {own : Addr → Prop} {a : Addr} {o o' : PObj} (ha : σ a = some o) (B : BaseS C σ π h) (hk : ∀ b ob, b ≠ a → h.get? b = some ob → h'.get? b = some ob) : Adv own σ π h (upd σ a o') π h' := by
  have ne : ∀ b, Free σ π b → b ≠ a := fun b f z => by subst z; have := f.1; rw [ha] at this; cases this
  refine ⟨fun b ob e q => hk b ob ?_ e, fun b f q => absurd (f.upd_of (ne b f)) q, fun _ e => e⟩
  rcases q with q | q
  · exact ne b q
  · exact fun z => (B.store a o ha).2.2 (z ▸ q.1)
theorem Adv.setPriv {own : Addr → Prop} {a : Addr} (ha : π a) (ho : own a) (hk : ∀ b ob, b ≠ a → h.get? b = some ob → h'.get? b = some ob) : Adv own σ π h σ π h' :=
  ⟨fun b ob e q => hk b ob (fun z => by subst z; exact q.elim (fun q => q.2 ha) (fun q => q.2 ho)) e, fun b f q => absurd f q, fun _ e => e⟩
end

section
variable {C : Ctx} {n : Nat} {kt : List (Str × NameKind)} {X : Cx C n kt} {ρ ρ' : Loc} {σ σ' : Store} {π π' : Priv} {h h' : Heap}

/-- the frame's own objects stand, the rest has gone on -/
theorem Sim.otherI (i : Sim X ρ σ π h) (B : BaseS C σ' π' h') (hr : ∀ b o, h.get? b = some o → Free σ π b → h'.get? b = some o ∧ Free σ' π' b) {I : Addr} (hI : X.env.locals ≠ I ∧ (∀ n c, X.env.cells.lookup n = some c → c ≠ I) ∧ ∀ a, X.own a → a ≠ I) (hπ : ∀ b, b ≠ I → π b → π' b)
    (hL : ∀ o, h.get? X.env.locals = some o → h'.get? X.env.locals = some o) (hc : ∀ n c, X.env.cells.lookup n = some c → ∀ o, h.get? c = some o → h'.get? c = some o) : Sim X ρ σ' π' h' := by
  refine ⟨B, ?_, hπ _ hI.1 i.privL, fun a e => hπ a (hI.2.2 a e) (i.ownπ a e), fun n c e => ?_⟩
  · obtain ⟨m, ⟨o, es, ep, ho, r⟩, hm⟩ := i.ns
    refine ⟨m, ⟨o, es, ep, hL o ho, r⟩, fun x p e k => ?_⟩
    obtain ⟨v, hv, q⟩ := hm x p e k
    exact ⟨v, hv, q.mono hr⟩
  · obtain ⟨h1, h2, v, ⟨o, ho, hd⟩, h3⟩ := i.cells n c e
    refine ⟨hπ c (hI.2.1 n c e) h1, h2, v, ⟨o, hc n c e o ho, hd⟩, fun p e' k => ?_⟩
    obtain ⟨w, hw, q⟩ := h3 p e' k
    exact ⟨w, hw, q.mono hr⟩
theorem Sim.other (i : Sim X ρ σ π h) (B : BaseS C σ' π' h') (hr : ∀ b o, h.get? b = some o → Free σ π b → h'.get? b = some o ∧ Free σ' π' b) (hπ : ∀ b, π b → π' b)
    (hL : ∀ o, h.get? X.env.locals = some o → h'.get? X.env.locals = some o) (hc : ∀ n c, X.env.cells.lookup n = some c → ∀ o, h.get? c = some o → h'.get? c = some o) : Sim X ρ σ' π' h' := by
  refine ⟨B, ?_, hπ _ i.privL, fun a e => hπ a (i.ownπ a e), fun n c e => ?_⟩
  · obtain ⟨m, ⟨o, es, ep, ho, r⟩, hm⟩ := i.ns
    refine ⟨m, ⟨o, es, ep, hL o ho, r⟩, fun x p e k => ?_⟩
    obtain ⟨v, hv, q⟩ := hm x p e k
    exact ⟨v, hv, q.mono hr⟩
  · obtain ⟨h1, h2, v, ⟨o, ho, hd⟩, h3⟩ := i.cells n c e
    refine ⟨hπ c h1, h2, v, ⟨o, hc n c e o ho, hd⟩, fun p e' k => ?_⟩
    obtain ⟨w, hw, q⟩ := h3 p e' k
    exact ⟨w, hw, q.mono hr⟩
theorem Sim.grow (i : Sim X ρ σ π h) (hk : ∀ b o, h.get? b = some o → h'.get? b = some o) : Sim X ρ σ π h' :=
  i.other (i.base.grow hk) (fun b o e f => ⟨hk b o e, f⟩) (fun _ e => e) (fun o e => hk _ o e) fun _ c _ o e => hk c o e
theorem Sim.newMut (i : Sim X ρ σ π h) {a : Addr} {o : PObj} (ha : h.get? a = none) (hk : ∀ b ob, h.get? b = some ob → h'.get? b = some ob) (ho : RO C h' (upd σ a o) π a o) : Sim X ρ (upd σ a o) π h' :=
  i.other (i.base.newMut ha hk ho) (fun b ob e f => ⟨hk b ob e, f.upd_of fun z => by subst z; rw [ha] at e; cases e⟩) (fun _ e => e) (fun o e => hk _ o e) fun _ c _ o e => hk c o e
theorem Sim.newPriv (i : Sim X ρ σ π h) {a : Addr} (ha : h.get? a = none) (hk : ∀ b ob, h.get? b = some ob → h'.get? b = some ob) (ho : ∃ ob, h'.get? a = some ob) : Sim X ρ σ (fun b => π b ∨ b = a) h' :=
  i.other (i.base.newPriv ha hk ho) (fun b ob e f => ⟨hk b ob e, f.1, fun z => z.elim f.2 fun w => by subst w; rw [ha] at e; cases e⟩) (fun _ e => .inl e) (fun o e => hk _ o e) fun _ c _ o e => hk c o e
theorem Sim.setMut (i : Sim X ρ σ π h) {a : Addr} {o o' : PObj} (ha : σ a = some o) (hh : o ≠ .hid) (hk : ∀ b ob, b ≠ a → h.get? b = some ob → h'.get? b = some ob) (ho : RO C h' (upd σ a o') π a o') : Sim X ρ (upd σ a o') π h' := by
  have np : ∀ b, π b → b ≠ a := fun b e z => (i.base.store a o ha).2.2 (z ▸ e)
  refine i.other (i.base.setMut ha hh hk ho) (fun b ob e f => ?_) (fun _ e => e) (fun o e => hk _ o (np _ i.privL) e) fun n c hc o e => hk c o (np _ (i.cells n c hc).1) e
  have hb : b ≠ a := fun z => by subst z; have := f.1; rw [ha] at this; cases this
  exact ⟨hk b ob hb e, f.upd_of hb⟩
/-- another's private object is changed -/
theorem Sim.setPriv (i : Sim X ρ σ π h) {a : Addr} (ha : π a) (hL : X.env.locals ≠ a) (hc : ∀ n c, X.env.cells.lookup n = some c → c ≠ a) (hk : ∀ b ob, b ≠ a → h.get? b = some ob → h'.get? b = some ob) (ho : ∃ ob, h'.get? a = some ob) : Sim X ρ σ π h' :=
  i.other (i.base.setPriv ha hk ho) (fun b ob e f => ⟨hk b ob (fun z => f.2 (z ▸ ha)) e, f⟩) (fun _ e => e) (fun o e => hk _ o hL e) fun n c e o e' => hk c o (hc n c e) e'

theorem get_cons (ρ : Loc) (x y : Str) (p : PV) : get ((x, p) :: ρ) y = if y = x then some p else get ρ y := by
  unfold get
  rw [List.lookup_cons]
  by_cases z : y = x
  · subst z; simp
  · rw [if_neg z, beq_eq_false_iff_ne.mpr z]

theorem Sim.setLocal (i : Sim X ρ σ π h) {x : Str} {v : Value} {p : PV} (hx : kt.lookup x = some .local) (r : RV C h σ π v p) {m : Str → Option Value} (hm0 : ∀ y q, get ρ y = some q → kt.lookup y = some .local → ∃ v, m y = some v ∧ RV C h σ π v q)
    (hn : h'.Ns X.env.locals (fun y => if y = x then some v else m y)) (hs : Heap.SameBut X.env.locals h h') : Sim X ((x, p) :: ρ) σ π h' := by
  have hk : ∀ b ob, b ≠ X.env.locals → h.get? b = some ob → h'.get? b = some ob := fun b ob z e => (hs.2 b z).trans e
  have hr : ∀ b o, h.get? b = some o → Free σ π b → h'.get? b = some o ∧ Free σ π b := fun b ob e f => ⟨hk b ob (fun z => f.2 (z ▸ i.privL)) e, f⟩
  refine ⟨i.base.setPriv i.privL hk (by obtain ⟨o, _, _, ho, _⟩ := hn; exact ⟨o, ho⟩), ⟨_, hn, fun y q e k => ?_⟩, i.privL, i.ownπ, fun n c e => ?_⟩
  · rw [get_cons] at e
    by_cases z : y = x
    · subst z
      rw [if_pos rfl] at e
      cases e
      exact ⟨v, if_pos rfl, r.mono hr⟩
    · rw [if_neg z] at e
      obtain ⟨u, hu, q'⟩ := hm0 y q e k
      exact ⟨u, (if_neg z).trans hu, q'.mono hr⟩
  · obtain ⟨h1, h2, w, hw, h3⟩ := i.cells n c e
    refine ⟨h1, h2, w, hw.sameBut hs h2, fun q e' k => ?_⟩
    rw [get_cons] at e'
    by_cases z : n = x
    · subst z
      rw [hx] at k
      rcases k with k | k <;> cases k
    · rw [if_neg z] at e'
      obtain ⟨u, hu, q'⟩ := h3 q e' k
      exact ⟨u, hu, q'.mono hr⟩

theorem Sim.setCell (hmay : X.mayC) (i : Sim X ρ σ π h) {x : Str} {c : Addr} {v : Value} {p : PV} (hx : kt.lookup x = some .cell) (hc : X.env.cells.lookup x = some c) (r : RV C h σ π v p)
    (hv : h'.IsCell c (some v)) (hs : Heap.SameBut c h h') : Sim X ((x, p) :: ρ) σ π h' := by
  obtain ⟨hp, hcL, _⟩ := i.cells x c hc
  have hk : ∀ b ob, b ≠ c → h.get? b = some ob → h'.get? b = some ob := fun b ob z e => (hs.2 b z).trans e
  have hr : ∀ b o, h.get? b = some o → Free σ π b → h'.get? b = some o ∧ Free σ π b := fun b ob e f => ⟨hk b ob (fun z => f.2 (z ▸ hp)) e, f⟩
  refine ⟨i.base.setPriv hp hk (by obtain ⟨o, ho, _⟩ := hv; exact ⟨o, ho⟩), ?_, i.privL, i.ownπ, fun n c' e => ?_⟩
  · obtain ⟨m, hn, hm⟩ := i.ns
    refine ⟨m, hn.sameBut hs (Ne.symm hcL), fun y q e k => ?_⟩
    rw [get_cons] at e
    by_cases z : y = x
    · subst z; rw [hx] at k; cases k
    · rw [if_neg z] at e
      obtain ⟨u, hu, q'⟩ := hm y q e k
      exact ⟨u, hu, q'.mono hr⟩
  · obtain ⟨h1, h2, w, hw, h3⟩ := i.cells n c' e
    by_cases z : n = x
    · subst z
      rw [hc] at e; cases e
      refine ⟨h1, h2, some v, hv, fun q e' k => ?_⟩
      rw [get_cons, if_pos rfl] at e'
      cases e'
      exact ⟨v, rfl, r.mono hr⟩
    · have hcc : c' ≠ c := fun q => z (name_of_addr (X.apart hmay) (mem_of_lookup e) (q ▸ mem_of_lookup hc))
      refine ⟨h1, h2, w, hw.sameBut hs hcc, fun q e' k => ?_⟩
      rw [get_cons, if_neg z] at e'
      obtain ⟨u, hu, q'⟩ := h3 q e' k
      exact ⟨u, hu, q'.mono hr⟩
end

section
variable {C : Ctx} {n : Nat} {kt : List (Str × NameKind)} {X : Cx C n kt} {ρ ρ' : Loc} {σ σ' : Store} {π π' : Priv} {s s' : Shared} {P P' : PV → Store → Prop}

theorem get?_size (h : Heap) : h.get? h.objs.size = none := Heap.get?_none_of_le (Nat.le_refl _)

-- displays
theorem es_nil {pos : Pos} {P : List PV → Store → Prop} (h : P [] σ) : WpEs X pos [] ρ σ P := fun s π i => wpAny_items_nil ⟨[], σ, π, .nil, i, Adv.refl _ _ _ _, Same.refl _, h⟩
theorem es_cons {pos : Pos} {e : Expr} {es : List Expr} {P : List PV → Store → Prop} (h : WpE X e ρ σ fun p σ₁ => WpEs X pos es ρ σ₁ fun ps σ₂ => P (p :: ps) σ₂)
    (he : ∀ env, starEach (e :: es) env = (false, eval e env) :: starEach es env := by intro _; rfl) : WpEs X pos (e :: es) ρ σ P := fun s π i => by
  refine wpAny_items_cons (wpAny_mono (h s π i) (fun v s₁ x => ?_) fun _ _ x => x) (he _)
  obtain ⟨p, σ₁, π₁, a, b, c, d, e⟩ := x
  refine wpAny_mono (e s₁ π₁ b) (fun vs s₂ y => ?_) fun _ _ x => x
  obtain ⟨ps, σ₂, π₂, a', b', c', d', e'⟩ := y
  exact ⟨p :: ps, σ₂, π₂, .cons (a.adv c') a', b', c.trans c', d.trans d', e'⟩

theorem newTup {vs : List Value} {ps : List PV} {h : Heap} (B : BaseS C σ π h) (r : RVs C h σ π vs ps) :
    RV C (h.push { cls := .type "tuple", data := .seq vs.toArray }) σ π (.ref h.objs.size) (.tup ps) :=
  .tup (IsT.new _ _) ⟨B.freshσ (get?_size h), B.freshπ (get?_size h)⟩ (r.mono fun b o e f => ⟨Heap.get?_push_of_some _ e, f⟩)
theorem newLst {vs : List Value} {ps : List PV} {h : Heap} (B : BaseS C σ π h) (r : RVs C h σ π vs ps) :
    RV C (h.push { cls := .type "list", data := .seq vs.toArray }) σ π (.ref h.objs.size) (.lst ps) :=
  .lst (IsL.new _ _) ⟨B.freshσ (get?_size h), B.freshπ (get?_size h)⟩ (r.mono fun b o e f => ⟨Heap.get?_push_of_some _ e, f⟩)
theorem pushed {h : Heap} (o : Obj) : ∀ b ob, h.get? b = some ob → (h.push o).get? b = some ob := fun _ _ e => Heap.get?_push_of_some _ e

theorem size_ok {vs : List Value} {ps : List PV} {h : Heap} (r : RVs C h σ π vs ps) (hl : ps.length ≤ 1000) : vs.length ≤ sizeLine := by
  rw [r.length]; exact Nat.le_trans hl (by decide)

theorem e_tuple {es : List Expr} {k : Nat} {pos : Pos} (h : WpEs X pos es ρ σ fun ps σ₁ => ps.length ≤ 1000 ∧ P (.tup ps) σ₁) : WpE X (.Tuple es k pos) ρ σ P := fun s π i => by
  refine wpAny_Tuple (wpAny_mono (h s π i) (fun vs s₁ x => ?_) fun _ _ x => x)
  obtain ⟨ps, σ₁, π₁, a, b, c, d, e⟩ := x
  exact ⟨size_ok a e.1, _, σ₁, π₁, newTup b.base a, b.grow (pushed _), c.trans (Adv.grow (pushed _)), d, e.2⟩
theorem e_list {es : List Expr} {pos : Pos} (h : WpEs X pos es ρ σ fun ps σ₁ => ps.length ≤ 1000 ∧ P (.lst ps) σ₁) : WpE X (.List es pos) ρ σ P := fun s π i => by
  refine wpAny_List (wpAny_mono (h s π i) (fun vs s₁ x => ?_) fun _ _ x => x)
  obtain ⟨ps, σ₁, π₁, a, b, c, d, e⟩ := x
  exact ⟨size_ok a e.1, _, σ₁, π₁, newLst b.base a, b.grow (pushed _), c.trans (Adv.grow (pushed _)), d, e.2⟩
/-- a list that will be changed -/
theorem e_listM {es : List Expr} {pos : Pos} (h : WpEs X pos es ρ σ fun ps σ₁ => ps.length ≤ 1000 ∧ ∀ a, σ₁ a = none → P (.ref a) (upd σ₁ a (.list ps))) : WpE X (.List es pos) ρ σ P := fun s π i => by
  refine wpAny_List (wpAny_mono (h s π i) (fun vs s₁ x => ?_) fun _ _ x => x)
  obtain ⟨ps, σ₁, π₁, a, b, c, d, e⟩ := x
  have hf := get?_size s₁.heap
  refine ⟨size_ok a e.1, .ref _, upd σ₁ s₁.heap.objs.size (.list ps), π₁, .ref _, b.newMut hf (pushed _) ?_, c.trans (Adv.newMut hf (pushed _)), d, e.2 _ (b.base.freshσ hf)⟩
  exact ⟨vs, 0, IsL.new _ _, a.mono fun b' o e' f => ⟨pushed _ _ _ e', f.upd_of fun z => by subst z; rw [hf] at e'; cases e'⟩⟩

theorem newDict0 {h : Heap} (ok : C.Ok) (B : BaseS C σ π h) : DictR C (h.push { cls := .type "dict", data := .dict #[] }) h.objs.size [] := by
  refine ⟨[], Heap.DictOf.new _, .nil, ?_⟩
  have hl := (ok.g.keeps B.base).lt
  have : (3 : Nat) < h.objs.size := hl
  exact beq_eq_false_iff_ne.mpr (fun z => by have z' : h.objs.size = 1 := z; omega)
theorem e_dict0 {pos : Pos} (h : P (.dct []) σ) : WpE X (.Dict [] [] pos) ρ σ P := fun s π i =>
  wpAny_Dict_empty ⟨_, σ, π, .dct (newDict0 X.ok i.base) ⟨i.base.freshσ (get?_size _), i.base.freshπ (get?_size _)⟩, i.grow (pushed _), Adv.grow (pushed _), Same.refl _, h⟩
theorem e_dict0M {pos : Pos} (h : ∀ a, σ a = none → P (.ref a) (upd σ a (.dict []))) : WpE X (.Dict [] [] pos) ρ σ P := fun s π i =>
  wpAny_Dict_empty ⟨.ref _, _, π, .ref _, i.newMut (o := .dict []) (get?_size _) (pushed _) (newDict0 X.ok i.base), Adv.newMut (get?_size _) (pushed _), Same.refl _, h _ (i.base.freshσ (get?_size _))⟩

/-- a written dict of ints -/
theorem e_dict1 {k : Expr} {v : Expr} {pos : Pos} {a b : Int} {kk kv : Nat} {kp vp : Pos} (hk : k = .Constant (.int a) kk kp) (hv : v = .Constant (.int b) kv vp) (h : P (.dct [(a, .int b)]) σ) : WpE X (.Dict [some k] [v] pos) ρ σ P := fun s π i => by
  subst hk hv
  have hf := get?_size s.heap
  refine wpAny_Dict_walk (knd := intKind C.prog C.w) rfl rfl (by simp) (by simp) ?_
  refine pairTrees_cons_walk (wpAny_Constant_int (wpAny_Constant_int (pairTrees_nil_walk ?_)))
  refine ⟨[(a, .int b _)], ⟨intKind_is _ _ _ _, rfl, trivial⟩, Heap.DictOf.new _, fun h' hd hs => ?_⟩
  have hk : ∀ b ob, s.heap.get? b = some ob → h'.get? b = some ob := fun b ob e => (hs.2 b (fun z => by subst z; rw [hf] at e; cases e)).trans (pushed _ b ob e)
  obtain ⟨_, _, _, hne⟩ := newDict0 X.ok i.base
  refine ⟨.dct [(a, .int b)], σ, π, .dct ⟨_, hd, .cons ⟨_, rfl⟩ .nil, hne⟩ ⟨i.base.freshσ hf, i.base.freshπ hf⟩, i.grow hk, Adv.grow hk, ⟨rfl, rfl, rfl⟩, h⟩

-- names
theorem st_local {x : Str} {p : PV} {v : Value} {Q : Loc → Store → Prop} (hk : kt.lookup x = some .local) (i : Sim X ρ σ π s.heap) (r : RV C s.heap σ π v p) (h : Q ((x, p) :: ρ) σ) :
    wpAny X.M X.A (storeName X.env x v) (PostA X σ π s Q) F0 s := by
  obtain ⟨m, hn, hm⟩ := i.ns
  refine wpAny_storeName_local ((X.names x).trans hk) hn (fun h' hn' hs => ?_) (by rw [X.kind]; rfl)
  exact ⟨_, σ, π, i.setLocal hk r hm hn' hs, Adv.setPriv i.privL X.ownL fun b ob z e => (hs.2 b z).trans e, ⟨rfl, rfl, rfl⟩, h⟩
theorem as_local {x : Str} {pos : Pos} {p : PV} {Q : Loc → Store → Prop} (hk : kt.lookup x = some .local) (h : Q ((x, p) :: ρ) σ) : AsW X (.Name x pos) p ρ σ Q := fun s π v i r =>
  wpAny_assign_Name (st_local hk i r h)
theorem as_cell {x : Str} {pos : Pos} {p : PV} {Q : Loc → Store → Prop} (hmay : X.mayC) (hk : kt.lookup x = some .cell) (h : Q ((x, p) :: ρ) σ) : AsW X (.Name x pos) p ρ σ Q := fun s π v i r => by
  obtain ⟨c, hc⟩ := X.hasC x hk
  obtain ⟨hp, _, w, hw, _⟩ := i.cells x c hc
  refine wpAny_assign_Name (wpAny_storeName_cell X.kind ((X.names x).trans hk) hc hw fun h' hv hs => ?_)
  exact ⟨_, σ, π, i.setCell hmay hk hc r hv hs, Adv.setPriv hp (X.ownC hmay x c hk hc) fun b ob z e => (hs.2 b z).trans e, ⟨rfl, rfl, rfl⟩, h⟩
end

theorem BaseS.newPrivs {C : Ctx} {h h' : Heap} {σ : Store} {π : Priv} (B : BaseS C σ π h) {N : Addr → Prop} (hN : ∀ a, N a → h.get? a = none ∧ ∃ ob, h'.get? a = some ob) (hk : ∀ b ob, h.get? b = some ob → h'.get? b = some ob) : BaseS C σ (fun b => π b ∨ N b) h' := by
  refine B.change (K := fun _ => False) (fun b ob e _ => hk b ob e) (fun _ z => z.elim) (fun b ob e f => ⟨id, f.1, ?_⟩) (fun b ob e => .inl ⟨e, id, ?_⟩) (fun d e => e) fun b e => ?_
  · rintro (z | z)
    · exact f.2 z
    · rw [(hN b z).1] at e; cases e
  · rintro (z | z)
    · exact (B.store b ob e).2.2 z
    · rw [B.freshσ (hN b z).1] at e; cases e
  · rcases e with e | e
    · obtain ⟨ob, hob⟩ := (B.priv b e).2
      exact ⟨.inl e, ob, hk b ob hob⟩
    · exact ⟨.inr (B.fresh0 (hN b e).1), (hN b e).2⟩

section
variable {C : Ctx} {n : Nat} {kt : List (Str × NameKind)} {X : Cx C n kt} {ρ ρ' : Loc} {σ σ' : Store} {π π' : Priv} {s s' : Shared} {P P' : PV → Store → Prop}

theorem Sim.call {h h' : Heap} (i : Sim X ρ σ π h) (B : BaseS C σ' π' h') (a : Adv noOwn σ π h σ' π' h') : Sim X ρ σ' π' h' :=
  i.other B (fun b o e f => ⟨a.keep b o e (.inl f), a.free f e⟩) a.priv (fun o e => a.keep _ o e (.inr ⟨i.privL, id⟩)) fun n c hc o e => a.keep c o e (.inr ⟨(i.cells n c hc).1, id⟩)

/-- the arguments of a plain call -/
def NoStar (args : List Expr) : Prop := args = [] ∨ ∃ e es, args = e :: es ∧ ∀ env, starEach (e :: es) env = (false, eval e env) :: starEach es env
theorem evalArgs_of {A : Around} {M : Model} {E : Value → Shared → Prop} {env : Env} {f : Value} {pos : Pos} {args : List Expr} {Q : Args → Shared → Prop} (hs : NoStar args)
    (h : wpAny M A (spliced (backTo pos (starEach args env))) (fun vs s' => Q ⟨vs, []⟩ s') E s) : wpAny M A (evalArgs f true (backTo pos (starEach args env)) []) Q E s := by
  rcases hs with rfl | ⟨e, es, rfl, he⟩
  · unfold evalArgs
    show wpAny M A (spliced (backTo pos (starEach [] env)) >>= _) Q E s
    exact wpAny_bind (wpAny_mono h (fun vs s' h' => wpAny_holding (wpAny_bind (wpAny_pure (wpAny_bind (wpAny_pure (wpAny_pure h')))))) fun _ _ x => x)
  · rw [he] at h ⊢
    exact Calls.evalArgs_plain h

/-- what stands for a def of the text -/
def FnAt (C : Ctx) (f : Str) (params : Arguments) (body : List Stmt) (scope : Scope) : Prop :=
  ∃ a o pm code doc, C.mg f = some (.ref a) ∧ C.h₀.get? a = some o ∧ o.data = .func (Calls.docDef f params body scope pm code doc) ∧ C.h₀.CodeRec code f

theorem e_call {f : Str} {fp pos : Pos} {args : List Expr} {params : Arguments} {body : List Stmt} {scope : Scope} (hf : FnAt C f params body scope) (hk : kt.lookup f = some .globalImplicit)
    (h : WpEs X pos args ρ σ fun ps σ₁ => Fn C f n ps σ₁ P) (hs : NoStar args := by first | exact .inl rfl | exact .inr ⟨_, _, rfl, fun _ => rfl⟩) (hd : (f == ("__debug__" : Str)) = false := by decide) :
    WpE X (.Call (.Name f fp) args [] pos) ρ σ P := fun s π i => by
  obtain ⟨a, o, pm, code, doc, hmg, ho, hdat, _⟩ := hf
  refine wpAny_Call_NameR (Calls.Name_function_global X.kind ((X.names f).trans hk) (Calls.loadGlobal_global (mg := C.mg) (by rw [X.globals]; exact X.ok.g.keeps i.base.base) hmg ?_) hd)
  refine Calls.callWith_function (o := o) (fd := Calls.docDef f params body scope pm code doc) (evalArgs_of hs (wpAny_mono (h s π i) (fun vs s₁ x => ?_) fun _ _ x => x))
  obtain ⟨ps, σ₁, π₁, r, i₁, c, d, e⟩ := x
  refine ⟨⟨i₁.base.base a o ho, hdat⟩, ?_⟩
  rw [List.nil_append]
  refine wpAny_mono (e a hmg X.A s₁ π₁ vs X.lv i₁.base r) (fun v s₂ y => ?_) fun _ _ x => x
  obtain ⟨p, σ₂, π₂, r₂, B₂, c₂, d₂, e₂⟩ := y
  exact ⟨p, σ₂, π₂, r₂, i₁.call B₂ c₂, c.trans c₂, d.trans d₂, e₂⟩
end

-- entering a def
theorem bindL_get {kindOf : Str → Option NameKind} {x : Str} (hx : kindOf x = some .local) : ∀ (binds : List (Str × Value)) (m : Str → Option Value), (binds.map (·.1)).Nodup → bindL kindOf binds m x = (binds.lookup x).or (m x)
  | [], m, _ => by simp [bindL]
  | (y, v) :: r, m, hn => by
    rw [List.map_cons, List.nodup_cons] at hn
    unfold bindL
    rw [bindL_get hx r _ hn.2, List.lookup_cons]
    by_cases z : x = y
    · subst z
      have : r.lookup x = none := by
        cases q : r.lookup x with
        | none => rfl
        | some v' => exact absurd (List.mem_map_of_mem (f := Prod.fst) (mem_of_lookup q)) hn.1
      rw [this, if_pos hx]
      simp
    · rw [beq_eq_false_iff_ne.mpr z]
      by_cases k : kindOf y = some .local
      · rw [if_pos k]; simp [z]
      · rw [if_neg k]
theorem bindC_get {kindOf : Str → Option NameKind} {x : Str} (hx : ¬ kindOf x = some .local) : ∀ (binds : List (Str × Value)) (m : Str → Option Value), (binds.map (·.1)).Nodup → bindC kindOf binds m x = (binds.lookup x).or (m x)
  | [], m, _ => by simp [bindC]
  | (y, v) :: r, m, hn => by
    rw [List.map_cons, List.nodup_cons] at hn
    unfold bindC
    rw [bindC_get hx r _ hn.2, List.lookup_cons]
    by_cases z : x = y
    · subst z
      have : r.lookup x = none := by
        cases q : r.lookup x with
        | none => rfl
        | some v' => exact absurd (List.mem_map_of_mem (f := Prod.fst) (mem_of_lookup q)) hn.1
      rw [this, if_neg hx]
      simp
    · rw [beq_eq_false_iff_ne.mpr z]
      by_cases k : kindOf y = some .local
      · rw [if_pos k]
      · rw [if_neg k]; simp [z]

theorem RVs.zip_lookup {C : Ctx} {h : Heap} {σ : Store} {π : Priv} {x : Str} {p : PV} : ∀ {xs : List Str} {vs : List Value} {ps : List PV}, RVs C h σ π vs ps → (xs.zip ps).lookup x = some p → ∃ v, (xs.zip vs).lookup x = some v ∧ RV C h σ π v p
  | [], _, _, _, e => by simp at e
  | y :: xs, [], _, r, e => by cases r; simp at e
  | y :: xs, v :: vs, _, r, e => by
    cases r with
    | cons r1 r2 =>
      rw [List.zip_cons_cons, List.lookup_cons] at e ⊢
      cases q : x == y with
      | true => rw [q] at e; cases e; exact ⟨v, rfl, r1⟩
      | false => rw [q] at e; exact RVs.zip_lookup r2 e

theorem Fn_intro {C : Ctx} {n : Nat} {f : Str} {params : Arguments} {body : List Stmt} {scope : Scope} {ps : List PV} {σ : Store} {P : PV → Store → Prop} (ok : C.Ok) (hf : FnAt C f params body scope) (xs : List Str)
    (hbind : ∀ pm code doc vs, vs.length = ps.length → bindArgs (Calls.docDef f params body scope pm code doc) ⟨vs, []⟩ = pure (xs.zip vs))
    (hlen : xs.length = ps.length) (hnd : xs.Nodup) (hkinds : (xs.all fun y => scope.names.lookup y == some .local || scope.names.lookup y == some .cell) = true)
    (h : ∀ X : Cx C n scope.names, X.mayC → WpS X body (xs.zip ps) σ (fun _ σ' => P .none σ') P)
    (hco : scope.isCoroutine = false := by rfl) (hgen : scope.isGenerator = false := by rfl) (hk : scope.kind = .function := by rfl) : Fn C f (n + 1) ps σ P := by
  intro a hmg A s π vs lv B r
  obtain ⟨a', o, pm, code, doc, hmg', ho, hdat, hcr⟩ := hf
  obtain rfl : a' = a := by rw [hmg] at hmg'; cases hmg'; rfl
  have hlv : vs.length = ps.length := r.length
  have hnd' : ((xs.zip vs).map (·.1)).Nodup := by
    have e : (xs.zip vs).map (·.1) = xs := by
      rw [List.map_fst_zip]; omega
    rw [e]; exact hnd
  have hall : ((xs.zip vs).all fun y => scope.names.lookup y.1 == some .local || scope.names.lookup y.1 == some .cell) = true := by
    rw [List.all_eq_true] at hkinds ⊢
    intro y hy
    exact hkinds y.1 (List.of_mem_zip hy).1
  have hk0 : ∀ b o, C.h₀.get? b = some o → s.heap.get? b = some o := B.base
  refine wpAny_call (codeAny_call_cells (fd := Calls.docDef f params body scope pm code doc) (binds := xs.zip vs) (by have := lv.2.1; show A.depth < 1000; omega) (hk0 _ _ ho) hdat (ok.nolimit.keeps hk0) (hcr.keeps hk0) rfl (hbind pm code doc vs hlv) rfl
    (kindsX hall _) (fun s₁ x => ?_) hco hgen hk)
  have hL : s.heap.get? s.heap.objs.size = none := get?_size _
  let env := callEnvC (Calls.docDef f params body scope pm code doc) s.heap.objs.size a'
  let N : Addr → Prop := fun b => b = env.locals ∨ ∃ m, env.cells.lookup m = some b
  have hN : ∀ b, N b → s.heap.get? b = none ∧ ∃ ob, s₁.heap.get? b = some ob := by
    rintro b (rfl | ⟨m, hm⟩)
    · obtain ⟨o, _, _, e, _⟩ := x.toInCall.ns
      exact ⟨hL, o, e⟩
    · obtain ⟨o, e, _⟩ := x.cell m b hm
      have hb : s.heap.objs.size < b := x.above m b (mem_of_lookup hm)
      exact ⟨Heap.get?_none_of_le (Nat.le_of_lt hb), o, e⟩
  have B₁ : BaseS C σ (fun b => π b ∨ N b) s₁.heap := B.newPrivs hN x.toInCall.keep
  have hr : ∀ b o, s.heap.get? b = some o → Free σ π b → s₁.heap.get? b = some o ∧ Free σ (fun b => π b ∨ N b) b := fun b o e fr => ⟨x.toInCall.keep b o e, fr.1, fun z => z.elim fr.2 fun w => by rw [(hN b w).1] at e; cases e⟩
  let X : Cx C n scope.names :=
    { A := A.deeper env, env, own := N, ok, lv := ⟨lv.1, by have := lv.2.1; show A.depth + 1 + 2 * n ≤ 900; omega, by have := lv.2.2; show A.units + 3 + 16 * n + 400 ≤ 9900; omega⟩
      kind := hk, names := fun _ => rfl, globals := rfl, builtins := rfl, ownL := .inl rfl, mayC := True, ownC := fun _ m c _ e => .inr ⟨m, e⟩
      hasC := fun m e => Option.isSome_iff_exists.mp (cellsFrom_some scope.names _ [] (.inl e)), apart := fun _ => x.apart }
  have i : Sim X (xs.zip ps) σ (fun b => π b ∨ N b) s₁.heap := by
    refine ⟨B₁, ⟨_, x.toInCall.ns, fun y p e k => ?_⟩, .inr (.inl rfl), fun a e => .inr e, fun m c e => ⟨.inr (.inr ⟨m, e⟩), ?_, _, x.cell m c e, fun p e' k => ?_⟩⟩
    · obtain ⟨v, hv, q⟩ := RVs.zip_lookup r e
      exact ⟨v, by rw [bindL_get (x := y) k _ _ hnd', hv]; rfl, q.mono hr⟩
    · have hb : s.heap.objs.size < c := x.above m c (mem_of_lookup e)
      exact Nat.ne_of_gt hb
    · obtain ⟨v, hv, q⟩ := RVs.zip_lookup r e'
      have hkm : ¬ env.kindOf m = some .local := by
        show ¬ scope.names.lookup m = some .local
        rcases k with k | k <;> rw [k] <;> decide
      exact ⟨v, by rw [bindC_get (x := m) hkm _ _ hnd', hv]; rfl, q.mono hr⟩
  have sm : Same s s₁ := by obtain ⟨h', tk, e, _⟩ := x.done; subst e; exact ⟨rfl, rfl, rfl⟩
  refine wpAny_mono (h X trivial s₁ _ i) (fun fl s₂ y => ?_) fun _ _ z => z.elim
  obtain ⟨ρ', σ', π', i', c, d, e⟩ := y
  have adv : Adv noOwn σ π s.heap σ' π' s₂.heap := by
    refine ⟨fun b o e hb => ?_, fun b fr nf => ?_, fun b e => c.priv b (.inl e)⟩
    · have e1 := x.toInCall.keep b o e
      have nN : ¬ N b := fun w => by rw [(hN b w).1] at e; cases e
      rcases hb with hb | hb
      · exact c.keep b o e1 (.inl ⟨hb.1, fun z => z.elim hb.2 nN⟩)
      · exact c.keep b o e1 (.inr ⟨.inl hb.1, nN⟩)
    · by_cases q : N b
      · exact (hN b q).1
      · have z := c.fresh b ⟨fr.1, fun z => z.elim fr.2 q⟩ nf
        cases w : s.heap.get? b with
        | none => rfl
        | some o => rw [x.toInCall.keep b o w] at z; cases z
  cases fl with
  | next => exact ⟨.none, σ', π', .none, i'.base, adv, sm.trans d, e⟩
  | ret v => obtain ⟨p, rp, hp⟩ := e; exact ⟨p, σ', π', rp, i'.base, adv, sm.trans d, hp⟩
  | brk => exact e.elim
  | cont => exact e.elim

/-- a frame that has the table kt and nothing else -/
def dEnv (kt : List (Str × NameKind)) : Env := { scope := { kind := .function, names := kt, isGenerator := false, isCoroutine := false }, locals := 0, globals := 0, cells := [] }

section
variable {C : Ctx} {n : Nat} {kt : List (Str × NameKind)} {X : Cx C n kt} {ρ ρ' : Loc} {σ σ' : Store} {π π' : Priv} {s s' : Shared} {P P' : PV → Store → Prop} {Qn : Loc → Store → Prop} {Qr : PV → Store → Prop}

theorem Cx.blockKind (X : Cx C n kt) : X.env.blockKind = (dEnv kt).blockKind := by
  unfold Env.blockKind
  rw [X.kind]; rfl
theorem Cx.kindOf (X : Cx C n kt) : X.env.kindOf = (dEnv kt).kindOf := funext X.names
theorem swapped_eq (X : Cx C n kt) (ts : List Expr) (v : Expr) : swappedStores ts v X.env = swappedStores ts v (dEnv kt) := by
  unfold swappedStores
  rw [X.blockKind, X.kindOf]
theorem swapsWith_eq (X : Cx C n kt) (v : Expr) (t : Option Expr) (line : Nat) (ht : t ≠ none) : swapsWith v t line X.env = swapsWith v t line (dEnv kt) := by
  unfold swapsWith
  cases t with
  | none => exact absurd rfl ht
  | some t =>
    rw [X.blockKind, X.kindOf, X.kind]
    rfl
theorem swapsSole_eq (X : Cx C n kt) (t v : Expr) (line : Nat) : swapsWithSole [t] v line X.env = swapsWithSole [t] v line (dEnv kt) := swapsWith_eq X v (some t) line (by simp)

theorem x_assign {t value : Expr} {pos : Pos} (h : WpE X value ρ σ fun p σ₁ => AsW X t p ρ σ₁ Qn) (hs : swapsWithSole [t] value pos.line (dEnv kt) = pure false := by rfl)
    (hw : swappedStores [t] value (dEnv kt) = pure none := by rfl) (he : ∀ env, (assignEach [t] env).map (·.2) = [assign t env] := by intro _; rfl) : WpX X (.Assign [t] value pos) ρ σ Qn Qr := fun s π i => by
  refine wpAny_Assign_stores (wpAny_mono (h s π i) (fun v s₁ x => ?_) fun _ _ x => x) ((swapsSole_eq X t value pos.line).trans hs) ((swapped_eq X _ _).trans hw)
  obtain ⟨p, σ₁, π₁, r, i₁, c, d, e⟩ := x
  rw [he]
  refine wpAny_mono (e s₁ π₁ v i₁ r) (fun _ s₂ y => ?_) fun _ _ x => x
  obtain ⟨ρ₂, σ₂, π₂, i₂, c₂, d₂, e₂⟩ := y
  exact ⟨ρ₂, σ₂, π₂, i₂, c.own.trans c₂, d.trans d₂, e₂⟩

/-- two targets that are unpacked in order -/
theorem unp2 {t₁ t₂ : Expr} {p q : PV} {v u : Value} {Q : Loc → Store → Prop} (h : AsW X t₁ p ρ σ fun ρ₁ σ₁ => AsW X t₂ q ρ₁ σ₁ Q) (i : Sim X ρ σ π s.heap) (r : RV C s.heap σ π v p) (r' : RV C s.heap σ π u q)
    (hmono : ∀ {σ' : Store} {π' : Priv} {h' : Heap}, Adv X.own σ π s.heap σ' π' h' → RV C h' σ' π' u q) :
    wpAny X.M X.A (assignInOrder [assign t₁ X.env, assign t₂ X.env] [v, u]) (PostA X σ π s Q) F0 s := by
  show wpAny X.M X.A (do holding [u] (assign t₁ X.env v); assignInOrder [assign t₂ X.env] [u]) _ _ _
  refine wpAny_bind (wpAny_holding (wpAny_mono (h s π v i r) (fun _ s₁ y => ?_) fun _ _ x => x))
  obtain ⟨ρ₁, σ₁, π₁, i₁, c₁, d₁, e₁⟩ := y
  show wpAny X.M X.A (do holding [] (assign t₂ X.env u); assignInOrder [] []) _ _ _
  refine wpAny_bind (wpAny_holding (wpAny_mono (e₁ s₁ π₁ u i₁ (hmono c₁)) (fun _ s₂ y => ?_) fun _ _ x => x))
  obtain ⟨ρ₂, σ₂, π₂, i₂, c₂, d₂, e₂⟩ := y
  exact wpAny_pure ⟨ρ₂, σ₂, π₂, i₂, c₁.trans c₂, d₁.trans d₂, e₂⟩

theorem IsT.isTuple {h : Heap} {a : Addr} {items : Array Value} {n : Nat} (x : IsT h a items n) : h.IsTuple a items := ⟨_, x, rfl, n, rfl⟩

theorem ExtBut.all {h h' : Heap} (x : Heap.ExtBut h.objs.size h h') : ∀ b o, h.get? b = some o → h'.get? b = some o := fun b o e => x b o (Nat.ne_of_lt (Heap.lt_size e)) e

theorem as_tup2 {t₁ t₂ : Expr} {k : Nat} {pos : Pos} {p q : PV} {Q : Loc → Store → Prop} (h : AsW X t₁ p ρ σ fun ρ₁ σ₁ => AsW X t₂ q ρ₁ σ₁ Q)
    (he : ∀ env, assignEach [t₁, t₂] env = [(false, assign t₁ env), (false, assign t₂ env)] := by intro _; rfl) : AsW X (.Tuple [t₁, t₂] k pos) (.tup [p, q]) ρ σ Q := fun s π v i r => by
  cases r with
  | tup ht f rs =>
    cases rs with
    | cons r1 rs =>
      cases rs with
      | cons r2 rs =>
        cases rs
        refine wpAny_assign_Tuple X.lv.1 (IsT.isTuple ht) (by rw [he]; rfl) (by rw [he]; rfl) fun h' hx => ?_
        rw [he]
        have hk := ExtBut.all hx
        have i' := i.grow hk
        have hr : ∀ {v p}, RV C s.heap σ π v p → RV C h' σ π v p := fun r => r.mono fun b o e f => ⟨hk b o e, f⟩
        exact wpAny_mono (unp2 (s := { s with heap := h' }) h i' (hr r1) (hr r2) fun a => (hr r2).adv a) (fun _ s₂ y => PostA.after (s₁ := { s with heap := h' }) (Adv.grow hk) ⟨rfl, rfl, rfl⟩ y) fun _ _ x => x

/-- a, b = (e, f) with the stores exchanged -/
theorem x_assign_sw {elts : List Expr} {k : Nat} {tpos pos : Pos} {value : Expr} {a b : Str} (h : WpE X value ρ σ fun r σ₁ => ∃ p q, r = .tup [p, q] ∧ Qn ((a, p) :: (b, q) :: ρ) σ₁)
    (ha : kt.lookup a = some .local := by rfl) (hb : kt.lookup b = some .local := by rfl)
    (hs : swapsWithSole [.Tuple elts k tpos] value pos.line (dEnv kt) = pure false := by rfl) (hw : swappedStores [.Tuple elts k tpos] value (dEnv kt) = pure (some [a, b]) := by rfl) :
    WpX X (.Assign [.Tuple elts k tpos] value pos) ρ σ Qn Qr := fun s π i => by
  refine Assign_Tuple_swapped (names := [a, b]) (wpAny_mono (h s π i) (fun v s₁ x => ?_) fun _ _ x => x) ((swapsSole_eq X _ value pos.line).trans hs) ((swapped_eq X _ _).trans hw)
  obtain ⟨r, σ₁, π₁, r1, i₁, c, d, p, q, rfl, e⟩ := x
  cases r1 with
  | tup ht f rs =>
    cases rs with
    | @cons v _ vs ps r1 rs =>
      cases rs with
      | @cons u _ vs ps r2 rs =>
        cases rs
        rw [show ([a, b] : List Str).length = ([v, u] : List Value).toArray.size from rfl]
        refine wpAny_unpackItems_tuple (items := [v, u].toArray) X.lv.1 (IsT.isTuple ht) fun h' hx => ?_
        have hk := ExtBut.all hx
        have i' := i₁.grow hk
        have hr : ∀ {v p}, RV C s₁.heap σ₁ π₁ v p → RV C h' σ₁ π₁ v p := fun r => r.mono fun b o e f => ⟨hk b o e, f⟩
        show wpAny X.M X.A (do holding [v] (bindName X.env b u); assignInOrder [bindName X.env a] [v]) _ _ _
        refine wpAny_bind (wpAny_holding (wpAny_bindName (wpAny_mono (st_local (s := { s₁ with heap := h' }) (Q := fun ρ' σ' => ρ' = (b, q) :: ρ ∧ σ' = σ₁) hb i' (hr r2) ⟨rfl, rfl⟩) (fun _ s₂ y => ?_) fun _ _ x => x)))
        obtain ⟨_, _, π₂, i₂, c₂, d₂, rfl, rfl⟩ := y
        show wpAny X.M X.A (do holding [] (bindName X.env a v); assignInOrder [] []) _ _ _
        refine wpAny_bind (wpAny_holding (wpAny_bindName (wpAny_mono (st_local (Q := Qn) ha i₂ ((hr r1).adv c₂) e) (fun _ s₃ y => ?_) fun _ _ x => x)))
        obtain ⟨ρ₃, σ₃, π₃, i₃, c₃, d₃, e₃⟩ := y
        exact wpAny_pure ⟨ρ₃, σ₃, π₃, i₃, (c.own.trans (Adv.grow hk)).trans (c₂.trans c₃), (d.trans ⟨rfl, rfl, rfl⟩).trans (d₂.trans d₃), e₃⟩
end

theorem IsL.isL {h : Heap} {a : Addr} {items : Array Value} {n : Nat} (x : IsL h a items n) : h.IsList a items := ⟨_, x, rfl, n, rfl⟩

/-- the intsUp from x on, k of them -/
def intsUp (x : Int) : Nat → List PV
  | 0 => []
  | k + 1 => .int x :: intsUp (x + 1) k

inductive ItR (C : Ctx) (h : Heap) (σ : Store) (π : Priv) (I : Addr) : List PV → Prop
  | list {l : Addr} {vs : List Value} {n i : Nat} {ps : List PV} : h.IsListIter I l i → IsL h l vs.toArray n → Free σ π l → RVs C h σ π (vs.drop i) ps → ItR C h σ π I ps
  | tuple {l : Addr} {vs : List Value} {n i : Nat} {ps : List PV} : h.IsTupleIter I l i → IsT h l vs.toArray n → Free σ π l → RVs C h σ π (vs.drop i) ps → ItR C h σ π I ps
  | range {x : Int} {m : Nat} {ps : List PV} : IsRangeIter h I x m 1 → ps = intsUp x m → ItR C h σ π I ps
  | keys {d : Addr} {l : List (Int × Value)} {i ep : Nat} {ps : List PV} : h.IsKeyIter I d i l.length ep → h.DictAt (intKind C.prog C.w) d l ep → Free σ π d → ps = (l.drop i).map (fun kv => PV.int kv.1) → ItR C h σ π I ps

section
variable {C : Ctx} {h h' : Heap} {σ σ' : Store} {π π' : Priv} {I : Addr} {ps : List PV}

theorem ItR.mono (x : ItR C h σ π I ps) (hI : ∀ o, h.get? I = some o → h'.get? I = some o) (hr : ∀ b o, h.get? b = some o → Free σ π b → h'.get? b = some o ∧ Free σ' π' b) : ItR C h' σ' π' I ps := by
  cases x with
  | list a b c d =>
    obtain ⟨o, ho, r⟩ := a
    exact .list ⟨o, hI o ho, r⟩ (hr _ _ b c).1 (hr _ _ b c).2 (d.mono hr)
  | tuple a b c d =>
    obtain ⟨o, ho, r⟩ := a
    exact .tuple ⟨o, hI o ho, r⟩ (hr _ _ b c).1 (hr _ _ b c).2 (d.mono hr)
  | range a b => exact .range (hI _ a) b
  | keys a b c d =>
    obtain ⟨o, ho, r⟩ := a
    obtain ⟨od, es, hod, rd⟩ := b
    exact .keys ⟨o, hI o ho, r⟩ ⟨od, es, (hr _ _ hod c).1, rd⟩ (hr _ _ hod c).2 d

/-- what stands behind a turn of the iterator -/
def Stepped (C : Ctx) (σ : Store) (π : Priv) (I : Addr) (h : Heap) : List PV → Option Value → Heap → Prop
  | [], r, h' => r = none ∧ Heap.ExtBut I h h'
  | p :: ps, r, h' => ∃ v, r = some v ∧ RV C h' σ π v p ∧ ItR C h' σ π I ps ∧ (∃ o, h'.get? I = some o) ∧ Heap.ExtBut I h h'

theorem drop_cons {α : Type} {vs : List α} {i : Nat} {v : α} {r : List α} (h : vs.drop i = v :: r) : vs[i]? = some v ∧ vs.drop (i + 1) = r := by
  have h1 : vs[i]? = some v := by
    have := congrArg (fun l => l[0]?) h
    simpa using this
  refine ⟨h1, ?_⟩
  have := congrArg (fun l => l.drop 1) h
  simpa [List.drop_drop, Nat.add_comm] using this
theorem drop_nil {α : Type} {vs : List α} {i : Nat} (h : vs.drop i = []) : vs[i]? = none := by
  have : vs.length ≤ i := List.drop_eq_nil_iff.mp h
  simpa using this

theorem ItR.step {A : Around} {s : Shared} {Q : Option Value → Shared → Prop} {E : Value → Shared → Prop} (hh : A.handled = none) (x : ItR C s.heap σ π I ps) (hI : π I)
    (hQ : ∀ r h' tk, Stepped C σ π I s.heap ps r h' → Q r { s with heap := h', toks := tk }) : wpAny (model C.prog C.w) A (pyNext (.ref I)) Q E s := by
  have hr : ∀ {h' : Heap}, Heap.SameBut I s.heap h' → ∀ b o, s.heap.get? b = some o → Free σ π b → h'.get? b = some o ∧ Free σ π b := fun hs b o e f => ⟨(hs.2 b (fun z => f.2 (z ▸ hI))).trans e, f⟩
  cases x with
  | @list l vs n i ps a b c d =>
    cases hd : vs.drop i with
    | nil =>
      rw [hd] at d; cases d
      refine wpAny_pyNext_list_end hh a (IsL.isL b) (by simpa using drop_nil hd) fun h' he => hQ _ _ s.toks ⟨rfl, he⟩
    | cons v r =>
      rw [hd] at d
      cases d with
      | cons d1 d2 =>
        obtain ⟨e1, e2⟩ := drop_cons hd
        refine wpAny_pyNext_list_item a (IsL.isL b) (x := v) (by simpa using e1) fun h' hi hs => hQ _ _ s.toks ⟨v, rfl, d1.mono (hr hs), .list hi ((hr hs _ _ b c).1) c (by rw [e2]; exact d2.mono (hr hs)), ?_, hs.extBut⟩
        obtain ⟨o, ho, _⟩ := hi
        exact ⟨o, ho⟩
  | @tuple l vs n i ps a b c d =>
    cases hd : vs.drop i with
    | nil =>
      rw [hd] at d; cases d
      refine wpAny_pyNext_tuple_end hh a (IsT.isTuple b) (by simpa using drop_nil hd) fun h' he => hQ _ _ s.toks ⟨rfl, he⟩
    | cons v r =>
      rw [hd] at d
      cases d with
      | cons d1 d2 =>
        obtain ⟨e1, e2⟩ := drop_cons hd
        refine wpAny_pyNext_tuple_item a (IsT.isTuple b) (x := v) (by simpa using e1) fun h' hi hs => hQ _ _ s.toks ⟨v, rfl, d1.mono (hr hs), .tuple hi ((hr hs _ _ b c).1) c (by rw [e2]; exact d2.mono (hr hs)), ?_, hs.extBut⟩
        obtain ⟨o, ho, _⟩ := hi
        exact ⟨o, ho⟩
  | @range x m ps a b =>
    subst b
    cases m with
    | zero => exact wpAny_pyNext_range_end hh a (by simp) fun h' he => hQ _ _ s.toks ⟨rfl, he⟩
    | succ m =>
      refine wpAny_pyNext_range_item a (by omega) fun h' hi hs => hQ _ _ _ ⟨_, rfl, .int _ _, .range (x := x + 1) (m := m) (by rw [show ((m + 1 : Nat) : Int) - 1 = (m : Int) by omega] at hi; exact hi) rfl, ⟨_, hi⟩, hs.extBut⟩
  | @keys d l i ep ps a b c e =>
    subst e
    cases hd : l.drop i with
    | nil =>
      rw [hd] at hQ
      exact wpAny_pyNext_dict_end hh a b (drop_nil hd) fun h' he => hQ _ _ s.toks ⟨rfl, he⟩
    | cons kv r =>
      rw [hd] at hQ
      obtain ⟨e1, e2⟩ := drop_cons hd
      obtain ⟨k, v⟩ := kv
      refine wpAny_pyNext_dict_item a b e1 fun key h' hk hi hs => hQ _ _ s.toks ?_
      obtain ⟨t, rfl⟩ := Value.isInt_shape (k := k) (v := key) hk
      obtain ⟨od, es, hod, rd⟩ := b
      have hdI : d ≠ I := fun z => c.2 (z ▸ hI)
      refine ⟨_, rfl, .int _ _, .keys hi ⟨od, es, (hs.2 d hdI).trans hod, rd⟩ c (by rw [e2]), ?_, hs.extBut⟩
      obtain ⟨o, ho, _⟩ := hi
      exact ⟨o, ho⟩

/-- what a loop walks over -/
def itemsOf : PV → Option (List PV)
  | .lst ps => some ps
  | .tup ps => some ps
  | .rng m => if 0 ≤ m ∧ m ≤ 1000 then some (intsUp 0 m.toNat) else none
  | .dct kvs => some (kvs.map fun kv => .int kv.1)
  | _ => none

theorem ScAll.keys {l : List (Int × Value)} {m : List (Int × Sc)} (h : ScAll l m) : l.map (fun kv => PV.int kv.1) = m.map (fun kv => PV.int kv.1) := by
  induction h with
  | nil => rfl
  | cons _ _ ih => simp [ih]

theorem iter_start {A : Around} {s : Shared} {Q : Value → Shared → Prop} {E : Value → Shared → Prop} {v : Value} {p : PV} (r : RV C s.heap σ π v p) (hp : itemsOf p = some ps) (B : BaseS C σ π s.heap)
    (hQ : ∀ h', s.heap.get? s.heap.objs.size = none → (∀ b o, s.heap.get? b = some o → h'.get? b = some o) → (∃ o, h'.get? s.heap.objs.size = some o) → ItR C h' σ (fun b => π b ∨ b = s.heap.objs.size) s.heap.objs.size ps → Q (.ref s.heap.objs.size) { s with heap := h' }) :
    wpAny (model C.prog C.w) A (pyIter v) Q E s := by
  have hf := get?_size s.heap
  have hr : ∀ {o : Obj}, ∀ b ob, s.heap.get? b = some ob → Free σ π b → (s.heap.push o).get? b = some ob ∧ Free σ (fun b => π b ∨ b = s.heap.objs.size) b := fun b ob e f => ⟨pushed _ _ _ e, f.1, fun z => z.elim f.2 fun w => by subst w; rw [hf] at e; cases e⟩
  cases r with
  | tup ht f rs =>
    cases hp
    refine wpAny_pyIter_tuple (IsT.isTuple ht) (hQ _ hf (pushed _) ⟨_, Heap.get?_push_size _ rfl⟩ (.tuple (i := 0) ⟨_, Heap.get?_push_size _ rfl, rfl, rfl⟩ (hr _ _ ht f).1 (hr (o := default) _ _ ht f).2 (by rw [List.drop_zero]; exact rs.mono hr)))
  | lst ht f rs =>
    cases hp
    refine wpAny_pyIter_list (IsL.isL ht) (hQ _ hf (pushed _) ⟨_, Heap.get?_push_size _ rfl⟩ (.list (i := 0) ⟨_, Heap.get?_push_size _ rfl, rfl, rfl⟩ (hr _ _ ht f).1 (hr (o := default) _ _ ht f).2 (by rw [List.drop_zero]; exact rs.mono hr)))
  | @dct a kvs hd f =>
    cases hp
    obtain ⟨l, hl, hs, hn⟩ := hd
    obtain ⟨ep, hat⟩ := hl.dictAt
    refine wpAny_pyIter_dict hn hat (hQ _ hf (pushed _) ⟨_, Heap.get?_push_size _ rfl⟩ (.keys (i := 0) ⟨_, Heap.get?_push_size _ rfl, rfl, rfl⟩ (hat.push _) ?_ (by rw [List.drop_zero]; exact hs.keys.symm)))
    obtain ⟨o, es, ho, _⟩ := hat
    exact (hr (o := default) _ _ ho f).2
  | @rng a m t u v hrg f =>
    have hm : 0 ≤ m ∧ m ≤ 1000 := by
      by_cases q : 0 ≤ m ∧ m ≤ 1000
      · exact q
      · simp [itemsOf, q] at hp
    have hps : ps = intsUp 0 m.toNat := by simpa [itemsOf, hm] using hp.symm
    refine wpAny_pyIter_range hrg (small_one (by decide) (by decide) (by omega) (by omega)) (hQ _ hf (pushed _) ⟨_, Heap.get?_push_size _ rfl⟩ (.range (x := 0) (m := m.toNat) ?_ hps))
    have hsz : Builtin.Range.rangeSize 0 m 1 = (m.toNat : Int) := by rw [rangeSize_one]; split <;> omega
    rw [← hsz]
    exact Heap.get?_push_size _ rfl
  | none => cases hp
  | bool => cases hp
  | int => cases hp
  | str => cases hp
  | ref => cases hp

theorem ItR.go {A : Around} {s : Shared} {Q : Unit → Shared → Prop} {E : Value → Shared → Prop} {target : Expr} {v : Value} (x : ItR C s.heap σ π I ps) (hQ : Q () s) : wpAny (model C.prog C.w) A (letOwnedTupleGo target (.ref I) v) Q E s := by
  have key : ∀ (o : Obj) (n : String) (vs : Array Value), s.heap.get? I = some o → o.cls = .type n → o.data = .fields vs → (["enumerate", "zip", "dict_itemiterator", "dict_reverseitemiterator", "odict_iterator", "itertools.zip_longest", "itertools.pairwise"].contains n) = false →
      wpAny (model C.prog C.w) A (letOwnedTupleGo target (.ref I) v) Q E s := by
    intro o n vs ho hc hd hn
    unfold letOwnedTupleGo
    split
    all_goals first
      | exact wpAny_pure hQ
      | (cases v with
          | ref a =>
            refine wpAny_bind (wpAny_load ho ?_)
            rw [hc, hd]
            show wpAny _ A (if (["enumerate", "zip", "dict_itemiterator", "dict_reverseitemiterator", "odict_iterator", "itertools.zip_longest", "itertools.pairwise"].contains n && _) = true then _ else _) Q E s
            rw [hn, Bool.false_and, if_neg (by decide)]
            exact wpAny_pure hQ
          | _ => exact wpAny_pure hQ)
  cases x with
  | list a b c d => obtain ⟨o, ho, hc, hd⟩ := a; exact key o _ _ ho hc hd (by decide)
  | tuple a b c d => obtain ⟨o, ho, hc, hd⟩ := a; exact key o _ _ ho hc hd (by decide)
  | range a b => exact key _ _ _ a rfl rfl (by decide)
  | keys a b c d => obtain ⟨o, ho, hc, hd⟩ := a; exact key o _ _ ho hc hd (by decide)
end

section
variable {C : Ctx} {n : Nat} {kt : List (Str × NameKind)} {X : Cx C n kt} {ρ ρ' : Loc} {σ σ' : Store} {π π' : Priv} {s s' : Shared} {P P' : PV → Store → Prop} {Qn : Loc → Store → Prop} {Qr : PV → Store → Prop} {h h' : Heap}

theorem ItR.adv {own : Addr → Prop} {I : Addr} {ps : List PV} (x : ItR C h σ π I ps) (a : Adv own σ π h σ' π' h') (hI : π I) (hno : ¬ own I) : ItR C h' σ' π' I ps :=
  x.mono (fun o e => a.keep I o e (.inr ⟨hI, hno⟩)) fun b o e f => ⟨a.keep b o e (.inl f), a.free f e⟩

def without (π : Priv) (I : Addr) : Priv := fun b => π b ∧ b ≠ I

/-- a private object that is no more looked at -/
theorem BaseS.drop (B : BaseS C σ π h) {I : Addr} (hI : π I) (hx : Heap.ExtBut I h h') : BaseS C σ (without π I) h' := by
  refine B.change (K := fun b => b = I) (fun b ob e z => hx b ob z e) (fun b z => by subst z; exact fun q => (B.store _ _ q).2.2 hI) (fun b ob e f => ⟨fun z => f.2 (z ▸ hI), f.1, fun z => f.2 z.1⟩)
    (fun b ob e => .inl ⟨e, fun z => (B.store b ob e).2.2 (z ▸ hI), fun z => (B.store b ob e).2.2 z.1⟩) (fun d e => e) fun b e => ⟨.inl e.1, ?_⟩
  obtain ⟨ob, hob⟩ := (B.priv b e.1).2
  exact ⟨ob, hx b ob e.2 hob⟩
theorem Sim.drop (i : Sim X ρ σ π h) {I : Addr} (hI : π I) (hL : X.env.locals ≠ I ∧ (∀ n c, X.env.cells.lookup n = some c → c ≠ I) ∧ ∀ a, X.own a → a ≠ I) (hx : Heap.ExtBut I h h') : Sim X ρ σ (without π I) h' :=
  i.otherI (i.base.drop hI hx) (fun b o e f => ⟨hx b o (fun z => f.2 (z ▸ hI)) e, f.1, fun z => f.2 z.1⟩) hL (fun b z e => ⟨e, z⟩) (fun o e => hx _ o hL.1 e) fun n c hc o e => hx c o (hL.2.1 n c hc) e

/-- I was made behind h, and nothing is said of it at the end -/
theorem Adv.dropI {own : Addr → Prop} {h₁ h₂ : Heap} {σ₁ : Store} {π₁ : Priv} {I : Addr} (hI : h.get? I = none) (hk : ∀ b o, h.get? b = some o → h₁.get? b = some o) (x : Adv (fun b => own b ∨ b = I) σ (fun b => π b ∨ b = I) h₁ σ₁ π₁ h₂) : Adv own σ π h σ₁ π₁ h₂ := by
  have ne : ∀ {b o}, h.get? b = some o → b ≠ I := fun e z => by subst z; rw [hI] at e; cases e
  refine ⟨fun b o e q => x.keep b o (hk b o e) ?_, fun b f nf => ?_, fun b e => x.priv b (.inl e)⟩
  · rcases q with q | q
    · exact .inl ⟨q.1, fun z => z.elim q.2 (ne e)⟩
    · exact .inr ⟨.inl q.1, fun z => z.elim q.2 (ne e)⟩
  · by_cases z : b = I
    · subst z; exact hI
    · have y := x.fresh b ⟨f.1, fun w => w.elim f.2 z⟩ nf
      cases w : h.get? b with
      | none => rfl
      | some o => rw [hk b o w] at y; cases y
theorem Adv.without {own : Addr → Prop} {I : Addr} (hB : ∀ b, π b → ∃ o, h.get? b = some o) (hI : h.get? I = none) {h₂ : Heap} (x : Adv own σ π h σ' π' h') (hx : Heap.ExtBut I h' h₂) : Adv own σ π h σ' (without π' I) h₂ := by
  have ne : ∀ {b o}, h.get? b = some o → b ≠ I := fun e z => by subst z; rw [hI] at e; cases e
  refine ⟨fun b o e q => hx b o (ne e) (x.keep b o e q), fun b f nf => ?_, fun b e => ⟨x.priv b e, ?_⟩⟩
  · by_cases z : b = I
    · subst z; exact hI
    · exact x.fresh b f fun q => nf ⟨q.1, fun w => q.2 w.1⟩
  · obtain ⟨o, ho⟩ := hB b e
    exact ne ho

-- for
def ForL (X : Cx C n kt) (target : Expr) (body : List Stmt) (Qn : Loc → Store → Prop) (Qr : PV → Store → Prop) : List PV → Loc → Store → Prop
  | [], ρ, σ => Qn ρ σ
  | p :: ps, ρ, σ => AsW X target p ρ σ fun ρ₁ σ₁ => WpS X body ρ₁ σ₁ (fun ρ₂ σ₂ => ForL X target body Qn Qr ps ρ₂ σ₂) Qr

theorem Sim.fresh_ne (i : Sim X ρ σ π h) {I : Addr} (hI : h.get? I = none) : X.env.locals ≠ I ∧ (∀ n c, X.env.cells.lookup n = some c → c ≠ I) ∧ ∀ a, X.own a → a ≠ I := by
  have ne : ∀ {b}, π b → b ≠ I := fun e z => by subst z; exact i.base.freshπ hI e
  exact ⟨ne i.privL, fun n c e => ne (i.cells n c e).1, fun a e => ne (i.ownπ a e)⟩

theorem x_for {target iter : Expr} {body : List Stmt} {pos : Pos} (h : WpE X iter ρ σ fun p σ₁ => ∃ ps, itemsOf p = some ps ∧ ForL X target body Qn Qr ps ρ σ₁)
    (hs : ∀ env x, foldedSetIterable iter env x = pure x := by intro _ _; rfl) : WpX X (.For target iter body [] pos) ρ σ Qn Qr := fun s π i => by
  refine wpAny_For (wpAny_mono (h s π i) (fun v s₁ x => ?_) fun _ _ x => x.elim) (hs _)
  obtain ⟨p, σ₁, π₁, r, i₁, c, d, ps, hp, hL⟩ := x
  refine iter_start r hp i₁.base fun h₂ hf hk he hit => ?_
  have nf := i₁.fresh_ne hf
  generalize hII : s₁.heap.objs.size = I at *
  have i₂ : Sim X ρ σ₁ (fun b => π₁ b ∨ b = I) h₂ := i₁.newPriv hf hk he
  refine codeAny_forLoop_any (fun k s' => ∃ ps ρ' σ' π', k = ps.length ∧ Sim X ρ' σ' π' s'.heap ∧ π' I ∧ ItR C s'.heap σ' π' I ps ∧ Adv (fun b => X.own b ∨ b = I) σ₁ (fun b => π₁ b ∨ b = I) h₂ σ' π' s'.heap ∧ Same s₁ s' ∧ ForL X target body Qn Qr ps ρ' σ')
    ?_ ps.length ⟨ps, ρ, σ₁, _, rfl, i₂, .inr rfl, hit, Adv.refl _ _ _ _, ⟨rfl, rfl, rfl⟩, hL⟩
  rintro k s' ⟨ps, ρ', σ', π', rfl, i', hπI, hit', adv, sm, hF⟩
  refine hit'.step X.lv.1 hπI fun r h₃ tk st => ?_
  cases ps with
  | nil =>
    obtain ⟨rfl, hx⟩ := st
    refine wpAny_execs_nil ?_
    exact ⟨ρ', σ', without π' I, i'.drop hπI nf hx, c.own.trans ((Adv.dropI hf hk adv).without (fun b e => (i₁.base.priv b e).2) hf hx), d.trans sm, hF⟩
  | cons q ps =>
    obtain ⟨v, rfl, rv, hit₃, hex, hx⟩ := st
    have hk₃ : ∀ b ob, b ≠ I → s'.heap.get? b = some ob → h₃.get? b = some ob := fun b ob z e => hx b ob z e
    have i₃ : Sim X ρ' σ' π' h₃ := i'.setPriv hπI nf.1 nf.2.1 hk₃ hex
    have adv₃ : Adv (fun b => X.own b ∨ b = I) σ₁ (fun b => π₁ b ∨ b = I) h₂ σ' π' h₃ := adv.trans (Adv.setPriv hπI (.inr rfl) hk₃)
    refine hit₃.go ?_
    refine wpAny_mono (hF { s' with heap := h₃, toks := tk } π' v i₃ rv) (fun _ s₄ y => ?_) fun _ _ x => x.elim
    obtain ⟨ρ₄, σ₄, π₄, i₄, c₄, d₄, e₄⟩ := y
    refine wpAny_mono (e₄ s₄ π₄ i₄) (fun f s₅ y => ?_) fun _ _ x => x.elim
    obtain ⟨ρ₅, σ₅, π₅, i₅, c₅, d₅, e₅⟩ := y
    have c45 := c₄.trans c₅
    have nI : ¬ X.own I := fun z => nf.2.2 I z rfl
    have adv₅ := adv₃.trans (c45.weaken fun b _ z => .inl z)
    have sm₅ : Same s₁ s₅ := sm.trans (Same.trans (b := { s' with heap := h₃, toks := tk }) ⟨rfl, rfl, rfl⟩ (d₄.trans d₅))
    cases f with
    | next => exact ⟨ps.length, by simp, ps, ρ₅, σ₅, π₅, rfl, i₅, c45.priv I hπI, hit₃.adv c45 hπI nI, adv₅, sm₅, e₅⟩
    | ret w => exact ⟨ρ₅, σ₅, π₅, i₅, c.own.trans (Adv.dropI hf hk adv₅), d.trans sm₅, e₅⟩
    | brk => exact e₅.elim
    | cont => exact e₅.elim
end

def relK (kt names : List (Str × NameKind)) : List (Str × NameKind) := names.map fun y => if y.2 == .free && kt.lookup y.1 == some .cell then (y.1, .cell) else y

section
variable {C : Ctx} {n : Nat} {kt : List (Str × NameKind)} {X : Cx C n kt} {ρ ρ' : Loc} {σ σ' : Store} {π π' : Priv} {s s' : Shared} {P P' : PV → Store → Prop} {Qn : Loc → Store → Prop} {Qr : PV → Store → Prop} {h h' : Heap}

theorem relabel_names (X : Cx C n kt) (scope : Scope) : (relabel scope X.env).names = relK kt scope.names := by
  unfold relabel relK
  refine List.map_congr_left fun y _ => ?_
  obtain ⟨m, k⟩ := y
  show (if (k == NameKind.free && X.env.scope.kind == ScopeKind.function && X.env.kindOf m == some NameKind.cell) = true then (m, NameKind.cell) else (m, k)) = _
  rw [X.kind, X.names m]
  cases h1 : (k == NameKind.free) <;> cases h2 : (kt.lookup m == some NameKind.cell) <;> simp [h1, h2]

/-- the cells that a comprehension's block takes over -/
def cloGo (cells : List (Str × Addr)) : List (Str × NameKind) → List (Str × Addr) → List (Str × Addr)
  | [], acc => acc
  | y :: r, acc => if y.2 == .free then cloGo cells r ((y.1, (cells.lookup y.1).getD 0) :: acc) else cloGo cells r acc
theorem cloGo_sub {cells : List (Str × Addr)} {m : Str} {c : Addr} : ∀ (names : List (Str × NameKind)) (acc : List (Str × Addr)), (∀ y ∈ names, y.2 = .free → ∃ c, cells.lookup y.1 = some c) → (∀ c, acc.lookup m = some c → cells.lookup m = some c) →
    (cloGo cells names acc).lookup m = some c → cells.lookup m = some c
  | [], acc, _, h, e => h c e
  | y :: r, acc, hf, h, e => by
    unfold cloGo at e
    split at e
    · rename_i hk
      refine cloGo_sub r _ (fun z hz => hf z (.tail _ hz)) (fun c' e' => ?_) e
      rw [List.lookup_cons] at e'
      cases q : m == y.1 with
      | true =>
        rw [q] at e'
        obtain ⟨c₂, h₂⟩ := hf y (.head _) (by simpa using hk)
        rw [h₂] at e'
        cases e'
        rw [beq_iff_eq.mp q]; exact h₂
      | false => rw [q] at e'; exact h c' e'
    · exact cloGo_sub r _ (fun z hz => hf z (.tail _ hz)) h e
theorem cloGo_has {cells : List (Str × Addr)} {m : Str} : ∀ (names : List (Str × NameKind)) (acc : List (Str × Addr)), ((m, .free) ∈ names ∨ ∃ c, acc.lookup m = some c) → ∃ c, (cloGo cells names acc).lookup m = some c
  | [], acc, h => h.elim (fun z => nomatch z) id
  | y :: r, acc, h => by
    unfold cloGo
    split
    · rename_i hk
      refine cloGo_has r _ ?_
      by_cases q : (m == y.1) = true
      · exact .inr ⟨_, by rw [List.lookup_cons, q]⟩
      · have q' : (m == y.1) = false := by simpa using q
        rcases h with h | ⟨c, h⟩
        · rcases List.mem_cons.mp h with e | h
          · rw [← e] at q; simp at q
          · exact .inl h
        · exact .inr ⟨c, by rw [List.lookup_cons, q']; exact h⟩
    · rename_i hk
      refine cloGo_has r _ ?_
      rcases h with h | h
      · rcases List.mem_cons.mp h with e | h
        · rw [← e] at hk; simp at hk
        · exact .inl h
      · exact .inr h
theorem cloGo_for {env : Env} (f : Str × NameKind → List (Str × Addr) → Sem (ForInStep (List (Str × Addr))))
    (hf : ∀ m k c, f (m, k) c = if k == .free then (do let a ← cellOf env m; pure (.yield ((m, a) :: c))) else pure (.yield c)) : ∀ (names : List (Str × NameKind)) (acc : List (Str × Addr)), (∀ y ∈ names, y.2 = .free → ∃ c, env.cells.lookup y.1 = some c) →
    forIn names acc f = (pure (cloGo env.cells names acc) : Sem (List (Str × Addr)))
  | [], acc, _ => rfl
  | (m, k) :: r, acc, h => by
    rw [List.forIn_cons, hf]
    unfold cloGo
    by_cases hk : (k == NameKind.free) = true
    · rw [if_pos hk, if_pos hk]
      obtain ⟨c, hc⟩ := h (m, k) (.head _) (by simpa using hk)
      have e : cellOf env m = pure c := by unfold cellOf; rw [hc]
      rw [e, pure_bind, pure_bind]
      show forIn r ((m, c) :: acc) f = _
      rw [cloGo_for f hf r _ fun y hy => h y (.tail _ hy)]
      simp [hc]
    · rw [if_neg hk, if_neg hk, pure_bind]
      exact cloGo_for f hf r _ fun y hy => h y (.tail _ hy)
theorem closure_eq (X : Cx C n kt) (scope : Scope) (hfree : ∀ y ∈ scope.names, y.2 = .free → kt.lookup y.1 = some .cell) : closureFor scope X.env = pure (cloGo X.env.cells scope.names []) := by
  unfold closureFor
  refine (congrArg (fun t => t >>= fun s => (pure s : Sem (List (Str × Addr)))) (cloGo_for (env := X.env) _ (fun m k c => ?_) scope.names [] fun y hy e => X.hasC y.1 (hfree y hy e))).trans rfl
  rfl

def frees (kc : List (Str × NameKind)) (ρ : Loc) : Loc := ρ.filter fun e => kc.lookup e.1 == some NameKind.cell
theorem get_frees {kc : List (Str × NameKind)} {y : Str} {p : PV} : ∀ {ρ : Loc}, get (frees kc ρ) y = some p → kc.lookup y = some .cell ∧ get ρ y = some p
  | [], e => by simp [frees, get] at e
  | (z, q) :: ρ, e => by
    unfold frees at e
    rw [List.filter_cons] at e
    rw [get_cons]
    by_cases hz : (kc.lookup z == some NameKind.cell) = true
    · rw [if_pos hz, get_cons] at e
      by_cases hy : y = z
      · subst hy
        rw [if_pos rfl] at e ⊢
        exact ⟨by simpa using hz, e⟩
      · rw [if_neg hy] at e ⊢
        exact get_frees e
    · rw [if_neg hz] at e
      have x := get_frees (ρ := ρ) e
      refine ⟨x.1, ?_⟩
      by_cases hy : y = z
      · subst hy; rw [x.1] at hz; simp at hz
      · rw [if_neg hy]; exact x.2

theorem relK_cell {kt : List (Str × NameKind)} {m : Str} : ∀ {names : List (Str × NameKind)}, (∀ y ∈ names, y.2 ≠ .cell) → (relK kt names).lookup m = some .cell → (m, .free) ∈ names ∧ kt.lookup m = some .cell
  | [], _, e => by simp [relK] at e
  | (z, k) :: r, hc, e => by
    have e' : (m, NameKind.cell) ∈ relK kt ((z, k) :: r) := mem_of_lookup e
    obtain ⟨y, hy, q⟩ := List.mem_map.mp e'
    by_cases hk : (y.2 == NameKind.free && kt.lookup y.1 == some NameKind.cell) = true
    · rw [if_pos hk] at q
      have hk' := Bool.and_eq_true_iff.mp hk
      have h1 : y.1 = m := congrArg Prod.fst q
      have h2 : y.2 = .free := by simpa using hk'.1
      obtain ⟨y1, y2⟩ := y
      simp only at h1 h2
      subst h1 h2
      exact ⟨hy, by simpa using hk'.2⟩
    · rw [if_neg hk] at q
      exact absurd (by rw [q]) (hc y hy)

def WpI (X : Cx C n kt) (ifs : List Expr) (ρ : Loc) (σ : Store) (P : Bool → Store → Prop) : Prop := match ifs with
  | [] => P true σ
  | [c] => WpB X c ρ σ P
  | _ => False

def CompL (X : Cx C n kt) (x : Str) (ifs : List Expr) (elt : Expr) (ρ : Loc) : List PV → List PV → Store → (List PV → Store → Prop) → Prop
  | [], acc, σ, P => P acc σ
  | p :: ps, acc, σ, P => WpI X ifs ((x, p) :: ρ) σ fun b σ₁ => (b = true → WpE X elt ((x, p) :: ρ) σ₁ fun q σ₂ => CompL X x ifs elt ρ ps (acc ++ [q]) σ₂ P) ∧ (b = false → CompL X x ifs elt ρ ps acc σ₁ P)

structure CEnd (X : Cx C n kt) (ρ : Loc) (σ : Store) (π : Priv) (h : Heap) (D K : Addr) (acc : List PV) (σ' : Store) (π' : Priv) (h' : Heap) : Prop where
  sim : Sim X ρ σ' π' h'
  adv : Adv noOwn σ π h σ' π' h'
  kPriv : π' K
  kNew : h.get? K = none
  ns : ∃ m, h'.Ns K m
  dPriv : π' D
  dNew : h.get? D = none
  ne : D ≠ K
  items : ∃ vs n, IsL h' D vs.toArray n ∧ RVs C h' σ' π' vs acc

theorem Sim.sub (i : Sim X ρ σ π h) (hs : ∀ y p, get ρ' y = some p → get ρ y = some p) : Sim X ρ' σ π h := by
  refine ⟨i.base, ?_, i.privL, i.ownπ, fun n c e => ?_⟩
  · obtain ⟨m, hn, hm⟩ := i.ns
    exact ⟨m, hn, fun x p e k => hm x p (hs x p e) k⟩
  · obtain ⟨h1, h2, v, hv, h3⟩ := i.cells n c e
    exact ⟨h1, h2, v, hv, fun p e' k => h3 p (hs n p e') k⟩

theorem Adv.dropN {own N : Addr → Prop} {h₁ h₂ : Heap} {σ₁ : Store} {π₁ : Priv} (hN : ∀ b, N b → h.get? b = none) (hk : ∀ b o, h.get? b = some o → h₁.get? b = some o) (x : Adv (fun b => own b ∨ N b) σ (fun b => π b ∨ N b) h₁ σ₁ π₁ h₂) : Adv own σ π h σ₁ π₁ h₂ := by
  have ne : ∀ {b o}, h.get? b = some o → ¬ N b := fun e z => by rw [hN _ z] at e; cases e
  refine ⟨fun b o e q => x.keep b o (hk b o e) ?_, fun b f nf => ?_, fun b e => x.priv b (.inl e)⟩
  · rcases q with q | q
    · exact .inl ⟨q.1, fun z => z.elim q.2 (ne e)⟩
    · exact .inr ⟨.inl q.1, fun z => z.elim q.2 (ne e)⟩
  · by_cases z : N b
    · exact hN b z
    · have y := x.fresh b ⟨f.1, fun w => w.elim f.2 z⟩ nf
      cases w : h.get? b with
      | none => rfl
      | some o => rw [hk b o w] at y; cases y

theorem ItR.self {A : Around} {I : Addr} {ps : List PV} {Q : Value → Shared → Prop} {E : Value → Shared → Prop} (x : ItR C s.heap σ π I ps) (hQ : Q (.ref I) s) : wpAny (model C.prog C.w) A (pyIter (.ref I)) Q E s := by
  cases x with
  | list a b c d => exact wpAny_pyIter_listiter a hQ
  | tuple a b c d => exact wpAny_pyIter_tupleiter a hQ
  | range a b => exact wpAny_pyIter_rangeiter a hQ
  | keys a b c d => exact wpAny_pyIter_keyiter a hQ

theorem comp_core {elt iter : Expr} {x : Str} {px : Pos} {ifs : List Expr} {scope : Scope} {pos : Pos} {v : Value} {p : PV} {ps : List PV} {P : List PV → Store → Prop} {E : Value → Shared → Prop}
    (i : Sim X ρ σ π s.heap) (r : RV C s.heap σ π v p) (hp : itemsOf p = some ps) (hlen : ps.length ≤ 1000)
    (hcell : ∀ y ∈ scope.names, y.2 ≠ .cell) (hkind : scope.kind = .function) (hfree : ∀ y ∈ scope.names, y.2 = .free → kt.lookup y.1 = some .cell) (hx : (relK kt scope.names).lookup x = some .local)
    (hL : ∀ Y : Cx C n (relK kt scope.names), CompL Y x ifs elt (frees (relK kt scope.names) ρ) ps [] σ P)
    {R : Value → Addr → Result → Shared → Prop}
    (hR : ∀ D K s' acc σ' π', CEnd X ρ σ π s.heap D K acc σ' π' s'.heap → Same s s' → P acc σ' → R (.ref D) K (.ok .next) s') :
    wpAny X.M X.A (pyIter v) (fun it s₂ => wpAny X.M X.A (newList []) (fun acc s₃ => wpAny X.M X.A (newFunctionEnv scope X.env.globals (cloGo X.env.cells scope.names []) [] X.env.qual none .none (some X.env)) (fun cenv s₄ =>
      codeAny X.M X.A (.compStart (.ListComp elt [⟨.Name x px, iter, ifs, 0⟩] scope pos) 0 it acc { cenv with scope := relabel scope X.env }) (R acc cenv.locals) s₄) E s₃) E s₂) E s := by
  refine iter_start r hp i.base fun h₂ hf hk he hit => ?_
  generalize hII : s.heap.objs.size = I at *
  refine wpAny_newObj_type (wpAny_newFunctionEnv hcell (by intro y hy; simp at hy) (fun h₄ hns hsb => ?_) hkind)
  dsimp only at hns hsb ⊢
  generalize hDD : h₂.objs.size = D at *
  have hfD : h₂.get? D = none := by rw [← hDD]; exact get?_size _
  generalize hH3 : h₂.push { cls := .type "list", dict := none, data := .seq ([] : List Value).toArray } = H3 at hns hsb ⊢
  have hk3 : ∀ b o, h₂.get? b = some o → H3.get? b = some o := fun b o e => hH3 ▸ pushed _ b o e
  have hD3 : IsL H3 D ([] : List Value).toArray 0 := by rw [← hH3, ← hDD]; exact IsL.new _ _
  generalize hKK : H3.objs.size = K at *
  have hfK : H3.get? K = none := by rw [← hKK]; exact get?_size _
  have hk4 : ∀ b o, H3.get? b = some o → h₄.get? b = some o := fun b o e => (hsb.2 b (fun z => by subst z; rw [hfK] at e; cases e)).trans (pushed _ b o e)
  have hk04 : ∀ b o, s.heap.get? b = some o → h₄.get? b = some o := fun b o e => hk4 b o (hk3 b o (hk b o e))
  let N : Addr → Prop := fun b => b = I ∨ b = D ∨ b = K
  have sN : ∀ {b}, h₂.get? b = none → s.heap.get? b = none := fun {b} e => by
    cases w : s.heap.get? b with
    | none => rfl
    | some o => rw [hk b o w] at e; cases e
  have sN3 : ∀ {b}, H3.get? b = none → h₂.get? b = none := fun {b} e => by
    cases w : h₂.get? b with
    | none => rfl
    | some o => rw [hk3 b o w] at e; cases e
  have hN : ∀ b, N b → s.heap.get? b = none ∧ ∃ ob, h₄.get? b = some ob := by
    rintro b (rfl | rfl | rfl)
    · obtain ⟨o, ho⟩ := he; exact ⟨hf, o, hk4 _ _ (hk3 _ _ ho)⟩
    · exact ⟨sN hfD, _, hk4 _ _ hD3⟩
    · obtain ⟨o, _, _, ho, _⟩ := hns; exact ⟨sN (sN3 hfK), o, ho⟩
  have hID : I ≠ D := fun z => by obtain ⟨o, ho⟩ := he; rw [z, hfD] at ho; cases ho
  have hIK : I ≠ K := fun z => by obtain ⟨o, ho⟩ := he; have := hk3 _ _ ho; rw [z, hfK] at this; cases this
  have hDK : D ≠ K := fun z => by have := hD3; rw [z] at this; rw [show H3.get? K = _ from this] at hfK; cases hfK
  let π₁ : Priv := fun b => π b ∨ N b
  have B₁ : BaseS C σ π₁ h₄ := i.base.newPrivs hN hk04
  have hr : ∀ b o, s.heap.get? b = some o → Free σ π b → h₄.get? b = some o ∧ Free σ π₁ b := fun b o e f => ⟨hk04 b o e, f.1, fun z => z.elim f.2 fun w => by rw [(hN b w).1] at e; cases e⟩
  have hit₁ : ItR C h₄ σ π₁ I ps := hit.mono (fun o e => hk4 _ _ (hk3 _ _ e)) fun b o e f => by
    refine ⟨hk4 _ _ (hk3 _ _ e), f.1, ?_⟩
    rintro (z | z | z | z)
    · exact f.2 (.inl z)
    · exact f.2 (.inr z)
    · subst z; rw [hfD] at e; cases e
    · subst z; have := hk3 _ _ e; rw [hfK] at this; cases this
  let Y : Cx C n (relK kt scope.names) :=
    { A := X.A, env := compEnvC scope (cloGo X.env.cells scope.names []) K X.env, own := fun b => b = K, ok := X.ok, lv := X.lv, kind := hkind,
      names := fun y => by show (relabel scope X.env).names.lookup y = _; rw [relabel_names]
      globals := X.globals, builtins := X.builtins, ownL := rfl, mayC := False, ownC := fun z => z.elim,
      hasC := fun m e => cloGo_has scope.names [] (.inl (relK_cell hcell e).1), apart := fun z => z.elim }
  let ρf := frees (relK kt scope.names) ρ
  have hcl : ∀ m c, (cloGo X.env.cells scope.names []).lookup m = some c → X.env.cells.lookup m = some c := fun m c e =>
    cloGo_sub scope.names [] (fun y hy q => X.hasC y.1 (hfree y hy q)) (fun c' e' => by simp at e') e
  have iY : Sim Y ρf σ π₁ h₄ := by
    refine ⟨B₁, ⟨_, hns, fun y p e k => ?_⟩, .inr (.inr (.inr rfl)), fun a e => .inr (.inr (.inr e)), fun m c e => ?_⟩
    · rw [(get_frees e).1] at k; cases k
    · obtain ⟨h1, h2, w, ⟨o, ho, hd⟩, h3⟩ := i.cells m c (hcl m c e)
      refine ⟨.inl h1, fun z => ?_, w, ⟨o, hk04 c o ho, hd⟩, fun p e' k => ?_⟩
      · have z' : c = K := z
        subst z'; rw [sN (sN3 hfK)] at ho; cases ho
      · obtain ⟨a1, a2⟩ := get_frees e'
        obtain ⟨u, hu, q⟩ := h3 p a2 (.inl (relK_cell hcell a1).2)
        exact ⟨u, hu, q.mono hr⟩
  have nY := iY
  have loop : ∀ s₄ : Shared, s₄.heap = h₄ → Same s s₄ → codeAny X.M X.A (.compLoop (.ListComp elt [⟨.Name x px, iter, ifs, 0⟩] scope pos) 0 (.ref I) (.ref D) Y.env) (R (.ref D) K) s₄ := by
    intro s₄ hs₄ sm₄
    refine codeAny_compLoop_tests (fun k s' => ∃ ps acc σ' π' ρx vs nD, k = ps.length ∧ acc.length + ps.length ≤ 1000 ∧ Sim Y ρx σ' π' s'.heap ∧ (∀ y p, get ρf y = some p → get ρx y = some p) ∧ (∀ b, N b → π' b) ∧ ItR C s'.heap σ' π' I ps ∧
      IsL s'.heap D vs.toArray nD ∧ RVs C s'.heap σ' π' vs acc ∧ Adv (fun b => noOwn b ∨ N b) σ π₁ h₄ σ' π' s'.heap ∧ Same s s' ∧ CompL Y x ifs elt ρf ps acc σ' P) ?_ ps.length
      ⟨ps, [], σ, π₁, ρf, [], 0, rfl, by simpa using hlen, hs₄ ▸ iY, fun _ _ e => e, fun b z => .inr z, hs₄ ▸ hit₁, hs₄ ▸ hk4 _ _ hD3, .nil, hs₄ ▸ Adv.refl _ _ _ _, sm₄, hL Y⟩
    rintro k s' ⟨ps, acc, σ', π', ρx, vs, nD, rfl, hle, i', hsub, hπN, hit', hlD, hrs, adv, sm, hF⟩
    have hπI := hπN I (.inl rfl)
    have hπD := hπN D (.inr (.inl rfl))
    have hπK := hπN K (.inr (.inr rfl))
    refine hit'.step X.lv.1 hπI fun r h₃ tk st => ?_
    have cellne : ∀ m c, (cloGo X.env.cells scope.names []).lookup m = some c → ∀ b, N b → c ≠ b := fun m c e b hb z => by
      obtain ⟨_, _, _, ⟨o, ho, _⟩, _⟩ := i.cells m c (hcl m c e)
      rw [z, (hN b hb).1] at ho; cases ho
    cases ps with
    | nil =>
      obtain ⟨rfl, hx'⟩ := st
      refine hR D K { s' with heap := h₃, toks := tk } acc σ' (without π' I) ?_ (sm.trans ⟨rfl, rfl, rfl⟩) hF
      have adv' : Adv noOwn σ π s.heap σ' π' s'.heap := Adv.dropN (fun b z => (hN b z).1) hk04 adv
      have adv₃ := adv'.without (fun b e => (i.base.priv b e).2) hf hx'
      have B₃ : BaseS C σ' (without π' I) h₃ := i'.base.drop hπI hx'
      have hr₃ : ∀ b o, s'.heap.get? b = some o → Free σ' π' b → h₃.get? b = some o ∧ Free σ' (without π' I) b := fun b o e f => ⟨hx' b o (fun z => f.2 (z ▸ hπI)) e, f.1, fun z => f.2 z.1⟩
      exact ⟨i.call B₃ adv₃, adv₃, ⟨hπK, Ne.symm hIK⟩, (hN K (.inr (.inr rfl))).1, by obtain ⟨m, hn, _⟩ := i'.ns; exact ⟨m, hn.extBut hx' (Ne.symm hIK)⟩, ⟨hπD, Ne.symm hID⟩, (hN D (.inr (.inl rfl))).1, hDK, vs, nD, hx' _ _ (Ne.symm hID) hlD, hrs.mono hr₃⟩
    | cons q ps =>
      obtain ⟨v, rfl, rv, hit₃, hex, hx'⟩ := st
      have hk₃ : ∀ b ob, b ≠ I → s'.heap.get? b = some ob → h₃.get? b = some ob := fun b ob z e => hx' b ob z e
      have i₃ : Sim Y ρx σ' π' h₃ := i'.setPriv hπI (Ne.symm hIK) (fun m c e => cellne m c e I (.inl rfl)) hk₃ hex
      have hr₃ : ∀ b o, s'.heap.get? b = some o → Free σ' π' b → h₃.get? b = some o ∧ Free σ' π' b := fun b o e f => ⟨hk₃ b o (fun z => f.2 (z ▸ hπI)) e, f⟩
      have adv₃ : Adv (fun b => noOwn b ∨ N b) σ π₁ h₄ σ' π' h₃ := adv.trans (Adv.setPriv hπI (.inr (.inl rfl)) hk₃)
      refine wpAny_mono (as_local (X := Y) (ρ := ρx) (Q := fun ρ₁ σ₁ => (x, q) :: ρx = ρ₁ ∧ σ' = σ₁) hx ⟨rfl, rfl⟩ { s' with heap := h₃, toks := tk } π' v i₃ rv) (fun _ s₄ y => ?_) fun _ _ z => z.elim
      obtain ⟨_, _, π₄, i₄, c₄, d₄, rfl, rfl⟩ := y
      have i₄' : Sim Y ((x, q) :: ρf) σ' π₄ s₄.heap := i₄.sub fun y p e => by
        rw [get_cons] at e ⊢
        by_cases z : y = x
        · rw [if_pos z] at e ⊢; exact e
        · rw [if_neg z] at e ⊢; exact hsub y p e
      have N₄ : ∀ b, N b → π₄ b := fun b z => c₄.priv b (hπN b z)
      have hit₄ := hit₃.adv c₄ hπI hIK
      have hlD₃ := hk₃ _ _ (Ne.symm hID) hlD
      have hlD₄ : IsL s₄.heap D vs.toArray nD := c₄.keep D _ hlD₃ (.inr ⟨hπD, hDK⟩)
      have hrs₄ := (hrs.mono hr₃).adv c₄
      have adv₄ := adv₃.trans (c₄.weaken fun b _ z => .inr (.inr (.inr z)))
      have sm₄ : Same s s₄ := sm.trans (Same.trans (b := { s' with heap := h₃, toks := tk }) ⟨rfl, rfl, rfl⟩ d₄)
      have tests : wpAny X.M X.A (forIn ifs true fun c r => if r = true then do let ok ← isTrue c Y.env (eval c Y.env); pure (ForInStep.yield ok) else pure (ForInStep.yield r))
          (PostB Y ((x, q) :: ρf) σ' π₄ s₄ fun b σ₁ => (b = true → WpE Y elt ((x, q) :: ρf) σ₁ fun q σ₂ => CompL Y x ifs elt ρf ps (acc ++ [q]) σ₂ P) ∧ (b = false → CompL Y x ifs elt ρf ps acc σ₁ P)) F0 s₄ := by
        have hF' : WpI Y ifs ((x, q) :: ρf) σ' fun b σ₁ => (b = true → WpE Y elt ((x, q) :: ρf) σ₁ fun q σ₂ => CompL Y x ifs elt ρf ps (acc ++ [q]) σ₂ P) ∧ (b = false → CompL Y x ifs elt ρf ps acc σ₁ P) := hF
        match ifs, hF' with
        | [], hF' => exact wpAny_tests_nil ⟨σ', π₄, i₄', Adv.refl _ _ _ _, Same.refl _, hF'⟩
        | [c], hF' => exact wpAny_tests_one (hF' s₄ π₄ i₄')
      refine wpAny_mono tests (fun b s₅ y => ?_) fun _ _ z => z.elim
      obtain ⟨σ₅, π₅, i₅, c₅, d₅, e₅⟩ := y
      have N₅ : ∀ b, N b → π₅ b := fun b z => c₅.priv b (N₄ b z)
      have hlD₅ : IsL s₅.heap D vs.toArray nD := c₅.keep D _ hlD₄ (.inr ⟨N₄ D (.inr (.inl rfl)), id⟩)
      cases b with
      | false =>
        rw [if_neg (by decide)]
        refine ⟨ps.length, by simp, ps, acc, σ₅, π₅, _, vs, nD, rfl, by simp at hle; omega, i₅, fun y p e => ?_, N₅, hit₄.adv c₅ (N₄ I (.inl rfl)) id, hlD₅, hrs₄.adv c₅, adv₄.trans c₅.own, sm₄.trans d₅, e₅.2 rfl⟩
        rw [get_cons]
        by_cases z : y = x
        · subst z
          have := (get_frees e).1
          rw [hx] at this; cases this
        · rw [if_neg z]; exact e
      | true =>
        rw [if_pos rfl]
        refine wpAny_mono (e₅.1 rfl s₅ π₅ i₅) (fun w s₆ y => ?_) fun _ _ z => z.elim
        obtain ⟨pw, σ₆, π₆, rw₆, i₆, c₆, d₆, e₆⟩ := y
        have N₆ : ∀ b, N b → π₆ b := fun b z => c₆.priv b (N₅ b z)
        have hlD₆ : IsL s₆.heap D vs.toArray nD := c₆.keep D _ hlD₅ (.inr ⟨N₅ D (.inr (.inl rfl)), id⟩)
        have hrs₆ := (hrs₄.adv c₅).adv c₆
        refine wpAny_list_append_plain ⟨nD, hlD₆⟩ (fun h₇ hl₇ hs₇ => ?_) (by rw [List.size_toArray, hrs₆.length]; exact Nat.le_trans (by simp at hle; omega : acc.length ≤ 1000) (by decide))
        obtain ⟨n₇, hl₇⟩ := hl₇
        have hk₇ : ∀ b ob, b ≠ D → s₆.heap.get? b = some ob → h₇.get? b = some ob := fun b ob z e => (hs₇.2 b z).trans e
        have hr₇ : ∀ b o, s₆.heap.get? b = some o → Free σ₆ π₆ b → h₇.get? b = some o ∧ Free σ₆ π₆ b := fun b o e f => ⟨hk₇ b o (fun z => f.2 (z ▸ N₆ D (.inr (.inl rfl)))) e, f⟩
        have i₇ : Sim Y ((x, q) :: ρf) σ₆ π₆ h₇ := i₆.setPriv (N₆ D (.inr (.inl rfl))) (Ne.symm hDK) (fun m c e => cellne m c e D (.inr (.inl rfl))) hk₇ ⟨_, hl₇⟩
        have hit₆ := (hit₄.adv c₅ (N₄ I (.inl rfl)) id).adv c₆ (N₅ I (.inl rfl)) id
        refine ⟨ps.length, by simp, ps, acc ++ [pw], σ₆, π₆, _, vs ++ [w], n₇, rfl, by simp at hle ⊢; omega, i₇, fun y p e => ?_, N₆, hit₆.mono (fun o e => hk₇ _ o hID e) hr₇, by rw [show (vs ++ [w]).toArray = vs.toArray.push w from by simp]; exact hl₇,
          RVs.append (hrs₆.mono hr₇) (.cons (rw₆.mono hr₇) .nil), (adv₄.trans (c₅.own.trans c₆.own)).trans (Adv.setPriv (N₆ D (.inr (.inl rfl))) (.inr (.inr (.inl rfl))) hk₇), (sm₄.trans (d₅.trans d₆)).trans ⟨rfl, rfl, rfl⟩, e₆⟩
        rw [get_cons]
        by_cases z : y = x
        · subst z
          have := (get_frees e).1
          rw [hx] at this; cases this
        · rw [if_neg z]; exact e
  have l0 := loop { s with heap := h₄, toks := s.toks + ([] : List (Str × Value)).length } rfl ⟨rfl, rfl, rfl⟩
  exact codeAny_compStart_list l0 (hit₁.self (s := { s with heap := h₄, toks := s.toks + ([] : List (Str × Value)).length }) l0)
end

section
variable {C : Ctx} {n : Nat} {kt : List (Str × NameKind)} {X : Cx C n kt} {ρ ρ' : Loc} {σ σ' : Store} {π π' : Priv} {s s' : Shared} {P P' : PV → Store → Prop} {Qn : Loc → Store → Prop} {Qr : PV → Store → Prop} {h h' h'' : Heap}

theorem ExtBut.refl' (a : Addr) (h : Heap) : Heap.ExtBut a h h := fun _ _ _ e => e

/-- the list that a comprehension has built, K let go -/
theorem CEnd.list {D K : Addr} {acc : List PV} (x : CEnd X ρ σ π h D K acc σ' π' h') (B : BaseS C σ π h) (i : Sim X ρ σ π h) (hx : Heap.ExtBut K h' h'') :
    Sim X ρ σ' (without (without π' K) D) h'' ∧ Adv noOwn σ π h σ' (without (without π' K) D) h'' ∧ RV C h'' σ' (without (without π' K) D) (.ref D) (.lst acc) := by
  obtain ⟨vs, n, hl, hr⟩ := x.items
  have nK := i.fresh_ne x.kNew
  have nD := i.fresh_ne x.dNew
  have dP : without π' K D := ⟨x.dPriv, x.ne⟩
  have hm : ∀ b o, h'.get? b = some o → Free σ' π' b → h''.get? b = some o ∧ Free σ' (without (without π' K) D) b := fun b o e f => ⟨hx b o (fun z => f.2 (z ▸ x.kPriv)) e, f.1, fun z => f.2 z.1.1⟩
  refine ⟨(x.sim.drop x.kPriv nK hx).drop dP nD (ExtBut.refl' D h''), (x.adv.without (fun b e => (B.priv b e).2) x.kNew hx).without (fun b e => (B.priv b e).2) x.dNew (ExtBut.refl' D h''), .lst (hx _ _ x.ne hl) ⟨?_, fun z => z.2 rfl⟩ (hr.mono hm)⟩
  cases q : σ' D with
  | none => rfl
  | some o => exact absurd x.dPriv (x.sim.base.store D o q).2.2

theorem CEnd.listM {D K : Addr} {acc : List PV} (x : CEnd X ρ σ π h D K acc σ' π' h') (B : BaseS C σ π h) (i : Sim X ρ σ π h) (hx : Heap.ExtBut K h' h'') :
    Sim X ρ (upd σ' D (.list acc)) (without (without π' K) D) h'' ∧ Adv noOwn σ π h (upd σ' D (.list acc)) (without (without π' K) D) h'' ∧ σ' D = none := by
  obtain ⟨a, b, c⟩ := x.list B i hx
  obtain ⟨vs, n, hl, hr⟩ := x.items
  have hσ : σ' D = none := by
    cases q : σ' D with
    | none => rfl
    | some o => exact absurd x.dPriv (x.sim.base.store D o q).2.2
  have nD := i.fresh_ne x.dNew
  cases c with
  | @lst _ vs n _ hl hf hr =>
  -- D leaves the frozen ones: nothing that stood before holds it
  have key : ∀ b' o, h''.get? b' = some o → Free σ' (without π' K) b' → Free (upd σ' D (.list acc)) (without (without π' K) D) b' := fun b' o e f => by
    have hb : b' ≠ D := fun z => f.2 (z ▸ ⟨x.dPriv, x.ne⟩)
    exact ⟨by show (if b' = D then some _ else σ' b') = none; rw [if_neg hb]; exact f.1, fun z => f.2 z.1⟩
  have i₁ := x.sim.drop x.kPriv (i.fresh_ne x.kNew) hx
  obtain ⟨vs', n', hl', hr'⟩ := x.items
  have hm : ∀ b o, h'.get? b = some o → Free σ' π' b → h''.get? b = some o ∧ Free σ' (without π' K) b := fun b o e f => ⟨hx b o (fun z => f.2 (z ▸ x.kPriv)) e, f.1, fun z => f.2 z.1⟩
  have B₁ : BaseS C (upd σ' D (.list acc)) (without (without π' K) D) h'' := by
    refine i₁.base.change (K := fun _ => False) (fun b ob e _ => e) (fun _ z => z.elim) (fun b ob e f => ⟨id, key b ob e f⟩) (fun b₀ ob e => ?_) (fun d e => ?_) fun b' e => ⟨.inl e.1, (i₁.base.priv b' e.1).2⟩
    · by_cases z : b₀ = D
      · have : ob = .list acc := by simpa [upd, z] using e.symm
        subst this
        rw [z]
        exact .inr ⟨⟨vs', n', hx _ _ x.ne hl', (hr'.mono hm).mono fun b o e f => ⟨e, key b o e f⟩⟩, (i₁.base.priv D ⟨x.dPriv, x.ne⟩).1, fun z => z.2 rfl⟩
      · have q : σ' b₀ = some ob := by simpa [upd, z] using e
        exact .inl ⟨q, id, fun w => (i₁.base.store b₀ ob q).2.2 w.1⟩
    · show (if d = D then some _ else σ' d) = _
      rw [if_neg (fun z => by subst z; rw [hσ] at e; cases e)]; exact e
  refine ⟨i₁.otherI B₁ (fun b o e f => ⟨e, key b o e f⟩) nD (fun b z e => ⟨e, z⟩) (fun o e => e) fun n c hc o e => e, ?_, hσ⟩
  refine ⟨b.keep, fun b' f nf => ?_, b.priv⟩
  by_cases z : b' = D
  · subst z; exact x.dNew
  · refine b.fresh b' f fun q => nf ⟨?_, q.2⟩
    show (if b' = D then some _ else σ' b') = none
    rw [if_neg z]; exact q.1

theorem e_comp {elt iter : Expr} {x : Str} {px : Pos} {ifs : List Expr} {scope : Scope} {pos : Pos}
    (h : WpE X iter ρ σ fun p σ₁ => ∃ ps, itemsOf p = some ps ∧ ps.length ≤ 1000 ∧ ∀ Y : Cx C n (relK kt scope.names), CompL Y x ifs elt (frees (relK kt scope.names) ρ) ps [] σ₁ fun acc σ₂ => P (.lst acc) σ₂)
    (hcell : ∀ y ∈ scope.names, y.2 ≠ .cell := by decide) (hkind : scope.kind = .function := by rfl) (hfree : ∀ y ∈ scope.names, y.2 = .free → kt.lookup y.1 = some .cell := by decide)
    (hnames : ∀ y ∈ scope.names, y.2 = .local → scope.names.lookup y.1 = some .local := by decide) (hx : (relK kt scope.names).lookup x = some .local := by rfl)
    (hs : ∀ env x, foldedSetIterable iter env x = pure x := by intro _ _; rfl) :
    WpE X (.ListComp elt [⟨.Name x px, iter, ifs, 0⟩] scope pos) ρ σ P := fun s π i => by
  rw [eval_ListComp]
  refine wpAny_comprehension_free (use := none) rfl (hs _) (closure_eq X scope hfree) hkind hnames (wpAny_mono (h s π i) (fun v s₁ y => ?_) fun _ _ z => z.elim)
  obtain ⟨p, σ₁, π₁, r, i₁, c, d, ps, hp, hl, hL⟩ := y
  refine comp_core i₁ r hp hl hcell hkind hfree hx hL (R := fun acc K => compPost X.M X.A F0 none (PostE X ρ σ π s P) acc K) fun D K s' acc σ' π' ce sm hP => ?_
  obtain ⟨m, hm⟩ := ce.ns
  refine ⟨m, hm, fun h' hsb => ?_⟩
  obtain ⟨a1, a2, a3⟩ := ce.list i₁.base i₁ hsb.extBut
  exact ⟨_, σ', _, a3, a1, c.trans a2, d.trans (sm.trans ⟨rfl, rfl, rfl⟩), hP⟩

theorem e_compM {elt iter : Expr} {x : Str} {px : Pos} {ifs : List Expr} {scope : Scope} {pos : Pos}
    (h : WpE X iter ρ σ fun p σ₁ => ∃ ps, itemsOf p = some ps ∧ ps.length ≤ 1000 ∧ ∀ Y : Cx C n (relK kt scope.names), CompL Y x ifs elt (frees (relK kt scope.names) ρ) ps [] σ₁ fun acc σ₂ => ∀ a, σ₂ a = none → P (.ref a) (upd σ₂ a (.list acc)))
    (hcell : ∀ y ∈ scope.names, y.2 ≠ .cell := by decide) (hkind : scope.kind = .function := by rfl) (hfree : ∀ y ∈ scope.names, y.2 = .free → kt.lookup y.1 = some .cell := by decide)
    (hnames : ∀ y ∈ scope.names, y.2 = .local → scope.names.lookup y.1 = some .local := by decide) (hx : (relK kt scope.names).lookup x = some .local := by rfl)
    (hs : ∀ env x, foldedSetIterable iter env x = pure x := by intro _ _; rfl) :
    WpE X (.ListComp elt [⟨.Name x px, iter, ifs, 0⟩] scope pos) ρ σ P := fun s π i => by
  rw [eval_ListComp]
  refine wpAny_comprehension_free (use := none) rfl (hs _) (closure_eq X scope hfree) hkind hnames (wpAny_mono (h s π i) (fun v s₁ y => ?_) fun _ _ z => z.elim)
  obtain ⟨p, σ₁, π₁, r, i₁, c, d, ps, hp, hl, hL⟩ := y
  refine comp_core i₁ r hp hl hcell hkind hfree hx hL (R := fun acc K => compPost X.M X.A F0 none (PostE X ρ σ π s P) acc K) fun D K s' acc σ' π' ce sm hP => ?_
  obtain ⟨m, hm⟩ := ce.ns
  refine ⟨m, hm, fun h' hsb => ?_⟩
  obtain ⟨a1, a2, a3⟩ := ce.listM i₁.base i₁ hsb.extBut
  exact ⟨.ref D, _, _, .ref D, a1, c.trans a2, d.trans (sm.trans ⟨rfl, rfl, rfl⟩), hP D a3⟩

/-- y = [.. for ..] on one line -/
theorem x_comp {elt iter : Expr} {x y : Str} {px py : Pos} {ifs : List Expr} {scope : Scope} {pos spos : Pos}
    (h : WpE X iter ρ σ fun p σ₁ => ∃ ps, itemsOf p = some ps ∧ ps.length ≤ 1000 ∧ ∀ Y : Cx C n (relK kt scope.names), CompL Y x ifs elt (frees (relK kt scope.names) ρ) ps [] σ₁ fun acc σ₂ => Qn ((y, .lst acc) :: ρ) σ₂)
    (hy : kt.lookup y = some .local := by rfl) (hsw : swapsWith (.ListComp elt [⟨.Name x px, iter, ifs, 0⟩] scope pos) (some (.Name y py)) spos.line (dEnv kt) = pure true := by rfl)
    (hcell : ∀ y ∈ scope.names, y.2 ≠ .cell := by decide) (hkind : scope.kind = .function := by rfl) (hfree : ∀ y ∈ scope.names, y.2 = .free → kt.lookup y.1 = some .cell := by decide)
    (hnames : ∀ y ∈ scope.names, y.2 = .local → scope.names.lookup y.1 = some .local := by decide) (hx : (relK kt scope.names).lookup x = some .local := by rfl)
    (hs : ∀ env x, foldedSetIterable iter env x = pure x := by intro _ _; rfl) :
    WpX X (.Assign [.Name y py] (.ListComp elt [⟨.Name x px, iter, ifs, 0⟩] scope pos) spos) ρ σ Qn Qr := fun s π i => by
  rw [exec_Assign_Name_used _ _ _ _ ((swapsWith_eq X _ _ _ (by simp)).trans hsw)]
  refine wpAny_bind (wpAny_standAt (wpAny_bind ?_))
  show wpAny _ X.A (do let _ ← comprehension (.ListComp elt [⟨.Name x px, iter, ifs, 0⟩] scope pos) scope X.env _ (newList []) false (eval iter X.env) (some (assign (.Name y py) X.env))) _ _ s
  refine wpAny_bind (wpAny_mono (wpAny_comprehension_free (use := some (assign (.Name y py) X.env)) (Q := fun _ s' => PostS X σ π s Qn Qr .next s') rfl (hs _) (closure_eq X scope hfree) hkind hnames
    (wpAny_mono (h s π i) (fun v s₁ y => ?_) fun _ _ z => z.elim)) (fun _ s' hq => wpAny_pure (wpAny_pure hq)) fun _ _ e => e)
  obtain ⟨p, σ₁, π₁, r, i₁, c, d, ps, hp, hl, hL⟩ := y
  refine comp_core i₁ r hp hl hcell hkind hfree hx hL (R := fun acc K => compPost X.M X.A F0 (some (assign (.Name _ py) X.env)) (fun _ s' => PostS X σ π s Qn Qr .next s') acc K) fun D K s' acc σ' π' ce sm hP => ?_
  show wpAny _ X.A (assign (.Name _ py) X.env (.ref D)) _ _ _
  -- D is let go first, K stays until the name is stored
  obtain ⟨vs, n₀, hlD, hrs⟩ := ce.items
  have nD := i₁.fresh_ne ce.dNew
  have nK := i₁.fresh_ne ce.kNew
  have hσ : σ' D = none := by
    cases q : σ' D with
    | none => rfl
    | some o => exact absurd ce.dPriv (ce.sim.base.store D o q).2.2
  have iD := ce.sim.drop ce.dPriv nD (ExtBut.refl' D s'.heap)
  have aD := ce.adv.without (fun b e => (i₁.base.priv b e).2) ce.dNew (ExtBut.refl' D s'.heap)
  have rD : RV C s'.heap σ' (without π' D) (.ref D) (.lst acc) := .lst hlD ⟨hσ, fun z => z.2 rfl⟩ (hrs.mono fun b o e f => ⟨e, f.1, fun z => f.2 z.1⟩)
  refine wpAny_mono (as_local (Q := Qn) hy hP s' _ _ iD rD) (fun _ s₂ z => ?_) fun _ _ z => z.elim
  obtain ⟨ρ₂, σ₂, π₂, i₂, c₂, d₂, e₂⟩ := z
  obtain ⟨m, om, es, ep, hom, hmm⟩ := ce.ns
  have kP : without π' D K := ⟨ce.kPriv, Ne.symm ce.ne⟩
  have nOwn : ¬ X.own K := fun z => nK.2.2 K z rfl
  refine ⟨m, ⟨om, es, ep, c₂.keep K om hom (.inr ⟨kP, nOwn⟩), hmm⟩, fun h' hsb => ?_⟩
  have i₃ := i₂.drop (c₂.priv K kP) nK hsb.extBut
  refine ⟨ρ₂, σ₂, without π₂ K, i₃, c.own.trans ((aD.own.trans c₂).without (fun b e => (i₁.base.priv b e).2) ce.kNew hsb.extBut), d.trans ((sm.trans d₂).trans ⟨rfl, rfl, rfl⟩), e₂⟩
end

mutual
def toPy : PV → PyData
  | .none => .none
  | .bool b => .bool b
  | .int i => .int i
  | .str x => .str x
  | .tup ps => .tuple (toPys ps)
  | .lst ps => .list (toPys ps)
  | .dct _ => .dict []
  | .rng _ => .dict []
  | .ref _ => .dict []
def toPys : List PV → List PyData
  | [] => []
  | p :: ps => toPy p :: toPys ps
end

section
variable {C : Ctx} {h : Heap} {σ : Store} {π : Priv}
mutual
theorem RV.reads : ∀ {v : Value} {p : PV}, RV C h σ π v p → PyData.canLay0 (toPy p) = true → ∃ as, Reads h v (toPy p) as
  | _, _, .none, _ => ⟨_, .none⟩
  | _, _, .bool b, _ => ⟨_, .bool b⟩
  | _, _, .int i t, _ => ⟨_, .int i t⟩
  | _, _, .str x t, _ => ⟨_, .str x t⟩
  | _, _, .tup x f r, e => by
    obtain ⟨as, ha⟩ := RVs.reads r (by simpa [toPy, PyData.canLay0] using e)
    exact ⟨_, .tuple x rfl rfl ha⟩
  | _, _, .lst x f r, e => by
    obtain ⟨as, ha⟩ := RVs.reads r (by simpa [toPy, PyData.canLay0] using e)
    exact ⟨_, .list x rfl rfl ha⟩
  | _, _, .dct x f, e => by simp [toPy, PyData.canLay0] at e
  | _, _, .rng x f, e => by simp [toPy, PyData.canLay0] at e
  | _, _, .ref a, e => by simp [toPy, PyData.canLay0] at e
theorem RVs.reads : ∀ {vs : List Value} {ps : List PV}, RVs C h σ π vs ps → PyData.canLayAll0 (toPys ps) = true → ∃ as, ReadsAll h vs (toPys ps) as
  | _, _, .nil, _ => ⟨_, .nil⟩
  | _, _, .cons x r, e => by
    simp only [toPys, PyData.canLayAll0, Bool.and_eq_true] at e
    obtain ⟨as, ha⟩ := RV.reads x e.1
    obtain ⟨bs, hb⟩ := RVs.reads r e.2
    exact ⟨_, .cons ha hb⟩
end
end

/-- data of a small depth -/
def Pl (d : Nat) (p : PV) : Prop := PyData.canLay0 (toPy p) = true ∧ (toPy p).depth ≤ d
def Pls (d : Nat) (ps : List PV) : Prop := PyData.canLayAll0 (toPys ps) = true ∧ PyData.depthAll (toPys ps) ≤ d
theorem Pl.mono {d e : Nat} {p : PV} (h : Pl d p) (k : d ≤ e) : Pl e p := ⟨h.1, Nat.le_trans h.2 k⟩
theorem Pls.mono {d e : Nat} {p : List PV} (h : Pls d p) (k : d ≤ e) : Pls e p := ⟨h.1, Nat.le_trans h.2 k⟩
theorem Pl.int (d : Nat) (i : Int) : Pl d (.int i) := ⟨by simp [toPy, PyData.canLay0], by simp [toPy, PyData.depth]⟩
theorem Pl.bool (d : Nat) (i : Bool) : Pl d (.bool i) := ⟨by simp [toPy, PyData.canLay0], by simp [toPy, PyData.depth]⟩
theorem Pl.none (d : Nat) : Pl d .none := ⟨by simp [toPy, PyData.canLay0], by simp [toPy, PyData.depth]⟩
theorem Pl.str (d : Nat) {x : Str} (h : PyData.strOk x = true) : Pl d (.str x) := ⟨by simpa [toPy, PyData.canLay0] using h, by simp [toPy, PyData.depth]⟩
theorem Pls.nil (d : Nat) : Pls d [] := ⟨by simp [toPys, PyData.canLayAll0], by simp [toPys, PyData.depthAll]⟩
theorem Pls.cons {d : Nat} {p : PV} {ps : List PV} (h : Pl d p) (k : Pls d ps) : Pls d (p :: ps) :=
  ⟨by simp [toPys, PyData.canLayAll0, h.1, k.1], by simpa [toPys, PyData.depthAll] using Nat.max_le.mpr ⟨h.2, k.2⟩⟩
theorem Pl.tup {d : Nat} {ps : List PV} (h : Pls d ps) : Pl (d + 1) (.tup ps) := ⟨by simpa [toPy, PyData.canLay0] using h.1, by simpa [toPy, PyData.depth] using h.2⟩
theorem Pl.lst {d : Nat} {ps : List PV} (h : Pls d ps) : Pl (d + 1) (.lst ps) := ⟨by simpa [toPy, PyData.canLay0] using h.1, by simpa [toPy, PyData.depth] using h.2⟩
theorem Pls.of {d : Nat} : ∀ {ps : List PV}, (∀ p ∈ ps, Pl d p) → Pls d ps
  | [], _ => .nil d
  | p :: ps, h => .cons (h p (List.mem_cons_self ..)) (Pls.of fun q hq => h q (List.mem_cons_of_mem _ hq))
theorem Pl.shaped {d : Nat} {p : PV} (h : Pl d p) (hd : d ≤ 60) : SeqAt.shaped (toPy p) = true := by
  unfold SeqAt.shaped
  rw [h.1, decide_eq_true (by have := h.2; omega)]; rfl

def pvEq (p q : PV) : Bool := PyData.eqv (toPy p) (toPy q)
theorem pvEq_refl {d : Nat} {p : PV} (h : Pl d p) : pvEq p p = true := SeqAt.eqv_refl _ h.1
theorem toPys_map (ps : List PV) : toPys ps = ps.map toPy := by
  induction ps with
  | nil => rfl
  | cons p ps ih => simp [toPys, ih]

section
variable {C : Ctx} {n : Nat} {kt : List (Str × NameKind)} {X : Cx C n kt} {ρ ρ' : Loc} {σ σ' : Store} {π π' : Priv} {s s' : Shared} {P P' : PV → Store → Prop} {Qn : Loc → Store → Prop} {Qr : PV → Store → Prop}

theorem Cx.units (X : Cx C n kt) : X.A.units + 400 ≤ 9900 := by have := X.lv.2.2; omega
theorem o_eq {d : Nat} {p q : PV} (hp : Pl d p) (hq : Pl d q) (h : P (.bool (pvEq p q)) σ) (hd : d ≤ 60 := by decide) : Op2 X (compareOp .Eq) p q ρ σ P := fun s π v u i r r' => by
  obtain ⟨as, ha⟩ := r.reads hp.1
  obtain ⟨bs, hb⟩ := r'.reads hq.1
  exact eq_dataH ha hb (hp.shaped hd) (hq.shaped hd) (by have := X.units; show _ < 9900; omega) (.here i (.bool _) h)
theorem o_ne {d : Nat} {p q : PV} (hp : Pl d p) (hq : Pl d q) (h : P (.bool (!pvEq p q)) σ) (hd : d ≤ 60 := by decide) : Op2 X (compareOp .NotEq) p q ρ σ P := fun s π v u i r r' => by
  obtain ⟨as, ha⟩ := r.reads hp.1
  obtain ⟨bs, hb⟩ := r'.reads hq.1
  exact ne_dataH ha hb (hp.shaped hd) (hq.shaped hd) (by have := X.units; show _ < 9900; omega) (.here i (.bool _) h)
theorem o_inT {d : Nat} {q : PV} {ps : List PV} (hp : Pls d ps) (hq : Pl d q) (h : P (.bool (ps.any fun y => pvEq y q)) σ) (hd : d ≤ 60 := by decide) : Op2 X (compareOp .In) q (.tup ps) ρ σ P := fun s π v u i r r' => by
  obtain ⟨as, ha⟩ := r'.reads (p := .tup ps) (Pl.tup hp).1
  obtain ⟨bs, hb⟩ := r.reads hq.1
  refine SeqAt.in_tuple_reads ha hb hp.1 hq.1 (by have := X.units; have := hq.2; show _ < 9900; omega) (.here i (.bool _) ?_)
  rw [toPys_map, List.any_map]; exact h
theorem o_inL {d : Nat} {q : PV} {ps : List PV} (hp : Pls d ps) (hq : Pl d q) (h : P (.bool (ps.any fun y => pvEq y q)) σ) (hd : d ≤ 60 := by decide) : Op2 X (compareOp .In) q (.lst ps) ρ σ P := fun s π v u i r r' => by
  obtain ⟨as, ha⟩ := r'.reads (p := .lst ps) (Pl.lst hp).1
  obtain ⟨bs, hb⟩ := r.reads hq.1
  refine SeqAt.in_list_reads ha hb hp.1 hq.1 (by have := X.units; have := hq.2; show _ < 9900; omega) (.here i (.bool _) ?_)
  rw [toPys_map, List.any_map]; exact h
theorem o_ninT {d : Nat} {q : PV} {ps : List PV} (hp : Pls d ps) (hq : Pl d q) (h : P (.bool (!ps.any fun y => pvEq y q)) σ) (hd : d ≤ 60 := by decide) : Op2 X (compareOp .NotIn) q (.tup ps) ρ σ P := fun s π v u i r r' => by
  obtain ⟨as, ha⟩ := r'.reads (p := .tup ps) (Pl.tup hp).1
  obtain ⟨bs, hb⟩ := r.reads hq.1
  refine SeqAt.notIn_tuple_reads ha hb hp.1 hq.1 (by have := X.units; have := hq.2; show _ < 9900; omega) (.here i (.bool _) ?_)
  rw [toPys_map, List.any_map]; exact h
theorem o_ninL {d : Nat} {q : PV} {ps : List PV} (hp : Pls d ps) (hq : Pl d q) (h : P (.bool (!ps.any fun y => pvEq y q)) σ) (hd : d ≤ 60 := by decide) : Op2 X (compareOp .NotIn) q (.lst ps) ρ σ P := fun s π v u i r r' => by
  obtain ⟨as, ha⟩ := r'.reads (p := .lst ps) (Pl.lst hp).1
  obtain ⟨bs, hb⟩ := r.reads hq.1
  refine SeqAt.notIn_list_reads ha hb hp.1 hq.1 (by have := X.units; have := hq.2; show _ < 9900; omega) (.here i (.bool _) ?_)
  rw [toPys_map, List.any_map]; exact h

-- ints
theorem o_add {a b : Int} (h : P (.int (a + b)) σ) : Op2 X (binaryOp .Add) (.int a) (.int b) ρ σ P := fun s π v u i r r' => by
  cases r; cases r'; exact PySem.P.add_int (.tok i (.int _ _) h)
theorem o_sub {a b : Int} (h : P (.int (a - b)) σ) : Op2 X (binaryOp .Sub) (.int a) (.int b) ρ σ P := fun s π v u i r r' => by
  cases r; cases r'; exact PySem.P.sub_int (.tok i (.int _ _) h)
theorem o_mul {a b : Int} (hm : IntMulOk a b) (h : P (.int (a * b)) σ) : Op2 X (binaryOp .Mult) (.int a) (.int b) ρ σ P := fun s π v u i r r' => by
  cases r; cases r'; exact PySem.P.mul_int (.tok i (.int _ _) h) hm
theorem o_mod {a b : Int} (hb : b ≠ 0) (h : P (.int (Int.fmod a b)) σ) : Op2 X (binaryOp .Mod) (.int a) (.int b) ρ σ P := fun s π v u i r r' => by
  cases r; cases r'; exact mod_int' hb (.tok i (.int _ _) h)
theorem o_div {a b : Int} (hb : b ≠ 0) (hs : b.natAbs < 1073741824) (h : P (.int (Int.fdiv a b)) σ) : Op2 X (binaryOp .FloorDiv) (.int a) (.int b) ρ σ P := fun s π v u i r r' => by
  cases r; cases r'; exact floordiv_int hb (.tok i (.int _ _) h) (.inl (PyProof.noPylong_small hs))
theorem o_pow {a b : Int} (h1 : 0 ≤ b) (h2 : b ≤ 1000000) (h3 : a.natAbs < 2 ^ 64) (h : P (.int (a ^ b.toNat)) σ) : Op2 X (binaryOp .Pow) (.int a) (.int b) ρ σ P := fun s π v u i r r' => by
  cases r; cases r'; exact pow_int_small h1 h2 h3 (.tok i (.int _ _) h)
theorem o_gt {a b : Int} (h : P (.bool (decide (a > b))) σ) : Op2 X (compareOp .Gt) (.int a) (.int b) ρ σ P := fun s π v u i r r' => by
  cases r; cases r'; exact PySem.P.gt_int (.here i (.bool _) h)
theorem o_ge {a b : Int} (h : P (.bool (decide (a ≥ b))) σ) : Op2 X (compareOp .GtE) (.int a) (.int b) ρ σ P := fun s π v u i r r' => by
  cases r; cases r'; exact PySem.P.ge_int (.here i (.bool _) h)
theorem o_neg {a : Int} (h : P (.int (-a)) σ) : Op1 X (unaryOp .USub) (.int a) ρ σ P := fun s π v i r => by
  cases r; exact PySem.P.neg_int (.tok i (.int _ _) h)
/-- `x is None` -/
theorem o_is {p : PV} (h : P (.bool (match p with | .none => true | _ => false)) σ) : Op2 X (compareOp .Is) p .none ρ σ P := fun s π v u i r r' => by
  cases r'
  refine is_none (.here i (.bool _) ?_)
  cases r <;> exact h

-- concatenation
theorem o_addL {ps qs : List PV} (hl : ps.length + qs.length ≤ 1000) (h : P (.lst (ps ++ qs)) σ) : Op2 X (binaryOp .Add) (.lst ps) (.lst qs) ρ σ P := fun s π v u i r r' => by
  cases r with
  | @lst a vs m _ ha fa ra =>
    cases r' with
    | @lst b us m' _ hb fb rb =>
      refine PySem.P.add_list ha hb (.mk (σ' := σ) (π' := π) (p := .lst (ps ++ qs)) ?_ (i.grow (pushed _)) (Adv.grow (pushed _)) ⟨rfl, rfl, rfl⟩ h) ?_
      · have := newLst i.base (ra.append rb)
        rwa [← List.append_toArray] at this
      · show vs.toArray.size + us.toArray.size ≤ sizeLine
        simp only [List.size_toArray, ra.length, rb.length]
        exact Nat.le_trans hl (by decide)
theorem o_addT {ps qs : List PV} (hl : ps.length + qs.length ≤ 1000) (h1 : ps ≠ []) (h2 : qs ≠ []) (h : P (.tup (ps ++ qs)) σ) : Op2 X (binaryOp .Add) (.tup ps) (.tup qs) ρ σ P := fun s π v u i r r' => by
  cases r with
  | @tup a vs m _ ha fa ra =>
    cases r' with
    | @tup b us m' _ hb fb rb =>
      have e1 : vs ≠ [] := fun z => by subst z; cases ra; exact h1 rfl
      have e2 : us ≠ [] := fun z => by subst z; cases rb; exact h2 rfl
      refine PySem.P.add_tuple ha hb (by simpa using e1) (by simpa using e2) (.mk (σ' := σ) (π' := π) (p := .tup (ps ++ qs)) ?_ (i.grow (pushed _)) (Adv.grow (pushed _)) ⟨rfl, rfl, rfl⟩ h) ?_
      · have := newTup i.base (ra.append rb)
        rwa [← List.append_toArray] at this
      · show vs.toArray.size + us.toArray.size ≤ sizeLine
        simp only [List.size_toArray, ra.length, rb.length]
        exact Nat.le_trans hl (by decide)

-- subscripts
theorem e_sub {l r : Expr} {pos : Pos} (h : WpE X l ρ σ fun p σ₁ => WpE X r ρ σ₁ fun q σ₂ => Op2 X (subscriptTail l r) p q ρ σ₂ P) : WpE X (.Subscript l r pos) ρ σ P := fun _ _ i => Subscript_ (bind2 h i)

theorem seqIndex_nat {k : Int} {m j : Nat} (h0 : 0 ≤ k) (hk : k.toNat = j) (hj : j < m) : seqIndex? k m = some j := by
  unfold seqIndex?
  have e : ¬ k < 0 := by omega
  simp only [e, if_false]
  rw [if_pos (by simp; omega), hk]
theorem t_tup {l r : Expr} {k : Int} {ps : List PV} {p : PV} (h0 : 0 ≤ k) (hp : ps[k.toNat]? = some p) (hl : ps.length ≤ 1000) (h : P p σ) (hs : ∀ o i, subscripted r false o i = operate [o, i] (getItem o i) := by intro _ _; rfl) :
    Op2 X (subscriptTail l r) (.tup ps) (.int k) ρ σ P := fun s π v u i rv r' => by
  cases r'
  cases rv with
  | @tup a vs m _ ha fa ra =>
    obtain ⟨v, hv, rv⟩ := ra.getElem? hp
    have hk : k.toNat < ps.length := (List.getElem?_eq_some_iff.mp hp).1
    have hsz : vs.toArray.size = ps.length := by simp [ra.length]
    exact tail_any (IsT.isTuple ha).typeIs slot_tuple_getitem.lookup (PySem.P.getItem_tuple ha (by omega) (by omega) (seqIndex_nat h0 rfl (by omega)) (by simpa using hv) (.here i rv h)) (hs _ _)
theorem t_lst {l r : Expr} {k : Int} {ps : List PV} {p : PV} (h0 : 0 ≤ k) (hp : ps[k.toNat]? = some p) (hl : ps.length ≤ 1000) (h : P p σ) (hs : ∀ o i, subscripted r false o i = operate [o, i] (getItem o i) := by intro _ _; rfl) :
    Op2 X (subscriptTail l r) (.lst ps) (.int k) ρ σ P := fun s π v u i rv r' => by
  cases r'
  cases rv with
  | @lst a vs m _ ha fa ra =>
    obtain ⟨v, hv, rv⟩ := ra.getElem? hp
    have hk : k.toNat < ps.length := (List.getElem?_eq_some_iff.mp hp).1
    exact tail_any (IsL.isL ha).typeIs slot_list_getitem.lookup (wpAny_getItem_list (IsL.isL ha) h0 (by omega) (by simpa using hv) (.here i rv h)) (hs _ _)
theorem t_ref {l r : Expr} {k : Int} {ps : List PV} {p : PV} {a : Addr} (ha : σ a = some (.list ps)) (h0 : 0 ≤ k) (hp : ps[k.toNat]? = some p) (hl : ps.length ≤ 1000) (h : P p σ) (hs : ∀ o i, subscripted r false o i = operate [o, i] (getItem o i) := by intro _ _; rfl) :
    Op2 X (subscriptTail l r) (.ref a) (.int k) ρ σ P := fun s π v u i rv r' => by
  cases r'
  cases rv
  obtain ⟨⟨vs, m, hl', ra⟩, _⟩ := i.base.store a _ ha
  obtain ⟨v, hv, rv⟩ := ra.getElem? hp
  have hk : k.toNat < ps.length := (List.getElem?_eq_some_iff.mp hp).1
  exact tail_any (IsL.isL hl').typeIs slot_list_getitem.lookup (wpAny_getItem_list (IsL.isL hl') h0 (by omega) (by simpa using hv) (.here i rv h)) (hs _ _)
end

def scPV : Sc → PV
  | .int i => .int i
  | .bool b => .bool b
theorem ScVal.rv {C : Ctx} {h : Heap} {σ : Store} {π : Priv} {v : Value} {c : Sc} (x : ScVal v c) : RV C h σ π v (scPV c) := by
  cases c with
  | int i => obtain ⟨t, rfl⟩ := x; exact .int i t
  | bool b => have e : v = .bool b := x; subst e; exact .bool b

def dget (m : List (Int × Sc)) (k : Int) : Option Sc := m.lookup k
def dset (m : List (Int × Sc)) (k : Int) (c : Sc) : List (Int × Sc) := if m.any (fun kv => kv.1 = k) then m.map (fun kv => if kv.1 = k then (kv.1, c) else kv) else m ++ [(k, c)]
def dwo (m : List (Int × Sc)) (k : Int) : List (Int × Sc) := m.filter fun kv => decide (kv.1 ≠ k)

theorem ScAll.at {l : List (Int × Value)} {m : List (Int × Sc)} (h : ScAll l m) (k : Int) : match dget m k with | some c => ∃ v, valueAt l k = some v ∧ ScVal v c | none => valueAt l k = none := by
  induction h with
  | nil => rfl
  | @cons k' v c l m hv r ih =>
    unfold dget at ih ⊢
    rw [List.lookup_cons]
    unfold valueAt at ih ⊢
    rw [List.find?_cons]
    by_cases e : k' = k
    · subst e
      simp only [beq_self_eq_true, decide_true]
      exact ⟨v, rfl, hv⟩
    · have e1 : (k == k') = false := beq_eq_false_iff_ne.mpr (Ne.symm e)
      rw [e1]
      have e2 : decide (k' = k) = false := decide_eq_false e
      simp only [e2]
      exact ih
theorem ScAll.map_set {l : List (Int × Value)} {m : List (Int × Sc)} (h : ScAll l m) {k : Int} {v : Value} {c : Sc} (hv : ScVal v c) : ScAll (l.map fun kv => if kv.1 = k then (kv.1, v) else kv) (m.map fun kv => if kv.1 = k then (kv.1, c) else kv) := by
  induction h with
  | nil => exact .nil
  | @cons k' v' c' l m hv' r ih =>
    simp only [List.map_cons]
    by_cases e : k' = k
    · simp only [e, if_true]; exact .cons hv ih
    · simp only [e, if_false]; exact .cons hv' ih
theorem ScAll.append {l l' : List (Int × Value)} {m m' : List (Int × Sc)} (h : ScAll l m) (h' : ScAll l' m') : ScAll (l ++ l') (m ++ m') := by
  induction h with
  | nil => exact h'
  | cons hv r ih => exact .cons hv ih
theorem ScAll.any {l : List (Int × Value)} {m : List (Int × Sc)} (h : ScAll l m) (k : Int) : (l.any fun kv => kv.1 = k) = m.any fun kv => kv.1 = k := by
  induction h with
  | nil => rfl
  | cons hv r ih => simp [ih]
theorem ScAll.stored {l : List (Int × Value)} {m : List (Int × Sc)} (h : ScAll l m) {k : Int} {v : Value} {c : Sc} (hv : ScVal v c) : ScAll (PySem.stored l k v) (dset m k c) := by
  unfold PySem.stored dset
  rw [h.any]
  split
  · exact h.map_set hv
  · exact h.append (.cons hv .nil)
theorem ScAll.without {l : List (Int × Value)} {m : List (Int × Sc)} (h : ScAll l m) (k : Int) : ScAll (PySem.without l k) (dwo m k) := by
  unfold PySem.without dwo
  induction h with
  | nil => exact .nil
  | @cons k' v' c' l m hv' r ih =>
    simp only [List.filter_cons]
    split
    · exact .cons hv' ih
    · exact ih

section
variable {C : Ctx} {n : Nat} {kt : List (Str × NameKind)} {X : Cx C n kt} {ρ ρ' : Loc} {σ σ' : Store} {π π' : Priv} {s s' : Shared} {P P' : PV → Store → Prop} {Qn : Loc → Store → Prop} {Qr : PV → Store → Prop}

-- reading a dict
theorem t_dct {l r : Expr} {k : Int} {m : List (Int × Sc)} {c : Sc} (hg : dget m k = some c) (h : P (scPV c) σ) (hs : ∀ o i, subscripted r false o i = operate [o, i] (getItem o i) := by intro _ _; rfl) :
    Op2 X (subscriptTail l r) (.dct m) (.int k) ρ σ P := fun s π v u i rv r' => by
  cases r'
  cases rv with
  | @dct a _ hd f =>
    obtain ⟨es, hes, hsc, hne⟩ := hd
    have := hsc.at k
    rw [hg] at this
    obtain ⟨v, hv, hsv⟩ := this
    exact tail_any hes.typeIs slot_dict_getitem.lookup (wpAny_getItem_of (intKind_is _ _ _ _) hes.mapOf hv (.tok i hsv.rv h)) (hs _ _)
theorem isSome_at {l : List (Int × Value)} {m : List (Int × Sc)} (h : ScAll l m) (k : Int) : (valueAt l k).isSome = (dget m k).isSome := by
  have := h.at k
  revert this
  cases dget m k with
  | none => intro e; rw [e]; rfl
  | some c => rintro ⟨v, e, _⟩; rw [e]; rfl
theorem o_inD {k : Int} {m : List (Int × Sc)} (h : P (.bool (dget m k).isSome) σ) : Op2 X (compareOp .In) (.int k) (.dct m) ρ σ P := fun s π v u i rv r' => by
  cases rv
  cases r' with
  | @dct a _ hd f =>
    obtain ⟨es, hes, hsc, hne⟩ := hd
    refine wpAny_in_of (intKind_is _ _ _ _) hne hes.mapOf (.tok i (.bool _) ?_)
    rw [isSome_at hsc]; exact h
theorem o_ninD {k : Int} {m : List (Int × Sc)} (h : P (.bool !(dget m k).isSome) σ) : Op2 X (compareOp .NotIn) (.int k) (.dct m) ρ σ P := fun s π v u i rv r' => by
  cases rv
  cases r' with
  | @dct a _ hd f =>
    obtain ⟨es, hes, hsc, hne⟩ := hd
    refine wpAny_notIn_of (intKind_is _ _ _ _) hne hes.mapOf (.tok i (.bool _) ?_)
    rw [isSome_at hsc]; exact h

-- storing into a list or a dict
def StoreW (X : Cx C n kt) (p q r : PV) (ρ : Loc) (σ : Store) (Q : Loc → Store → Prop) : Prop :=
  ∀ s π v u z, Sim X ρ σ π s.heap → RV C s.heap σ π v p → RV C s.heap σ π u q → RV C s.heap σ π z r → wpAny X.M X.A (setItem v u z) (PostA X σ π s Q) F0 s
theorem as_sub {l r : Expr} {pos : Pos} {p : PV} {Q : Loc → Store → Prop} (h : WpE X l ρ σ fun p₁ σ₁ => WpE X r ρ σ₁ fun q σ₂ => StoreW X p₁ q p ρ σ₂ Q) : AsW X (.Subscript l r pos) p ρ σ Q := fun s π v i rv => by
  refine kas_sub (wpAny_mono (h s π i) (fun o s₁ x => ?_) fun _ _ x => x)
  obtain ⟨p₁, σ₁, π₁, a, b, c, d, e⟩ := x
  refine wpAny_mono (e s₁ π₁ b) (fun w s₂ y => ?_) fun _ _ x => x
  obtain ⟨q, σ₂, π₂, a', b', c', d', e'⟩ := y
  exact wpAny_mono (e' s₂ π₂ o w v b' (a.adv c') a' (rv.adv (c.trans c'))) (fun _ s₃ y => y.after (c.own.trans c'.own) (d.trans d')) fun _ _ x => x

theorem upd_free {a : Addr} {o o' : PObj} (ha : σ a = some o) {h : Heap} {h' : Heap} (hk : ∀ b ob, b ≠ a → h.get? b = some ob → h'.get? b = some ob) : ∀ b ob, h.get? b = some ob → Free σ π b → h'.get? b = some ob ∧ Free (upd σ a o') π b := fun b ob e f => by
  have hb : b ≠ a := fun z => by subst z; rw [f.1] at ha; cases ha
  exact ⟨hk b ob hb e, f.upd_of hb⟩

theorem sw_list {a : Addr} {ps : List PV} {k : Int} {p : PV} {Q : Loc → Store → Prop} (ha : σ a = some (.list ps)) (h0 : 0 ≤ k) (hk : k.toNat < ps.length) (hl : ps.length ≤ 1000) (h : Q ρ (upd σ a (.list (ps.set k.toNat p)))) :
    StoreW X (.ref a) (.int k) p ρ σ Q := fun s π v u z i r r' rz => by
  cases r; cases r'
  obtain ⟨⟨vs, m, hv, ra⟩, _⟩ := i.base.store a _ ha
  have hlen := ra.length
  refine ki_setAt hv h0 (by omega) (by simp only [List.size_toArray]; omega) ?_
  have hsb : Heap.SameBut a s.heap (s.heap.update a (Obj.mapSeq (·.setIfInBounds k.toNat z))) := Heap.SameBut.update ..
  have hkp : ∀ b ob, b ≠ a → s.heap.get? b = some ob → (s.heap.update a (Obj.mapSeq (·.setIfInBounds k.toNat z))).get? b = some ob := fun b ob e1 e2 => (hsb.2 b e1).trans e2
  have hu := upd_free (π := π) (o' := .list (ps.set k.toNat p)) ha hkp
  have hro : RO C (s.heap.update a (Obj.mapSeq (·.setIfInBounds k.toNat z))) (upd σ a (.list (ps.set k.toNat p))) π a (.list (ps.set k.toNat p)) := by
    obtain ⟨m', hm'⟩ : ∃ m', IsL (s.heap.update a (Obj.mapSeq (·.setIfInBounds k.toNat z))) a (vs.set k.toNat z).toArray m' := by
      have := IsL.update hv (·.setIfInBounds k.toNat z)
      rw [show vs.toArray.setIfInBounds k.toNat z = (vs.set k.toNat z).toArray by simp] at this
      exact ⟨_, this⟩
    refine ⟨vs.set k.toNat z, m', hm', ?_⟩
    · have key : ∀ (j : Nat) {vs : List Value} {ps : List PV}, RVs C s.heap σ π vs ps → RVs C s.heap σ π (vs.set j z) (ps.set j p) := by
        intro j
        induction j with
        | zero => intro vs ps r; cases r with | nil => exact .nil | cons a b => exact .cons rz b
        | succ j ih => intro vs ps r; cases r with | nil => exact .nil | cons a b => exact .cons a (ih b)
      exact (key k.toNat ra).mono hu
  exact ⟨ρ, _, π, i.setMut ha (by simp) hkp hro, Adv.setMut ha i.base hkp, ⟨rfl, rfl, rfl⟩, h⟩

theorem sw_dict {a : Addr} {m : List (Int × Sc)} {k : Int} {c : Sc} {p : PV} {Q : Loc → Store → Prop} (ha : σ a = some (.dict m)) (hp : p = scPV c) (hl : m.length ≤ 1000) (h : Q ρ (upd σ a (.dict (dset m k c)))) :
    StoreW X (.ref a) (.int k) p ρ σ Q := fun s π v u z i r r' rz => by
  cases r; cases r'
  obtain ⟨⟨es, hes, hsc, hne⟩, _⟩ := i.base.store a _ ha
  have hz : ScVal z c := by subst hp; cases c <;> cases rz <;> first | exact ⟨_, rfl⟩ | rfl
  refine wpAny_setItem_pairs (intKind_is _ _ _ _) hes (fun h' hd hsb => ?_) (by rw [hsc.refl_len]; exact Nat.le_trans hl (by decide))
  have hkp : ∀ b ob, b ≠ a → s.heap.get? b = some ob → h'.get? b = some ob := fun b ob e1 e2 => (hsb.2 b e1).trans e2
  exact ⟨ρ, _, π, i.setMut (h' := h') (o' := .dict (dset m k c)) ha (by simp) hkp ⟨_, hd, hsc.stored hz, hne⟩, Adv.setMut ha i.base hkp, ⟨rfl, rfl, rfl⟩, h⟩

-- an expression for its effect
theorem Cx.swapsNone (X : Cx C n kt) (e : Expr) (line : Nat) : swapsWith e none line X.env = swapsWith e none line (dEnv kt) := by
  unfold swapsWith
  rw [X.blockKind, X.kindOf, X.kind]
  rfl
theorem x_expr {e : Expr} {pos : Pos} (h : WpE X e ρ σ fun p σ₁ => (match p with | .none => True | .int _ => True | .bool _ => True | _ => False) ∧ Qn ρ σ₁) (hs : swapsWith e none pos.line (dEnv kt) = pure false := by rfl) : WpX X (.Expr e pos) ρ σ Qn Qr := fun s π i => by
  refine wpAny_Expr (wpAny_mono (h s π i) (fun v s₁ x => ?_) fun _ _ x => x) (by unfold interactive; rw [X.kind]; rfl) ((X.swapsNone _ _).trans hs)
  obtain ⟨p, σ₁, π₁, a, b, c, d, e1, e2⟩ := x
  cases a with
  | none => exact ⟨ρ, σ₁, π₁, b, c.own, d, e2⟩
  | bool => exact ⟨ρ, σ₁, π₁, b, c.own, d, e2⟩
  | int => exact ⟨ρ, σ₁, π₁, b, c.own, d, e2⟩
  | str => exact e1.elim
  | tup => exact e1.elim
  | lst => exact e1.elim
  | dct => exact e1.elim
  | rng => exact e1.elim
  | ref => exact e1.elim

-- methods
def IsObj (T : String) : PObj → Prop
  | .list _ => T = "list"
  | .dict _ => T = "dict"
  | _ => False
theorem e_meth {o : Expr} {name : Str} {apos pos : Pos} {args : List Expr} (T id : String) (h : WpE X o ρ σ fun p σ₁ => ∃ a ob, p = .ref a ∧ σ₁ a = some ob ∧ IsObj T ob ∧ WpEs X pos args ρ σ₁ fun ps σ₂ => OpN X (fun vs => call (.builtin id) (.ref a :: vs)) ps ρ σ₂ P)
    (pa : PlainAttrs T) (slot : Slot T name id) (hty : typeOf (.builtin id) = pure (.type "method_descriptor"))
    (hs : NoStar args := by first | exact .inl rfl | exact .inr ⟨_, _, rfl, fun _ => rfl⟩)
    (hbase : ∀ env, attributeBase o name env (eval o env) = eval o env := by intro _; rfl)
    (hfew : ∀ env, ((backTo pos (starEach args env)).all (fun x => !x.1) && (backToKw pos (keywordEach [] env)).all (fun x => x.1.isSome)
      && decide (args.length + ([] : List Keyword).length + (if ([] : List Keyword).isEmpty then 0 else 1) < 30)) = true := by intro _; rfl)
    (hplain : ∀ env, (backTo pos (starEach args env)).any (·.1) = false := by intro _; rfl)
    (hline : (apos.endLine == pos.line) = true := by rfl) : WpE X (.Call (.Attribute o name apos) args [] pos) ρ σ P := fun s π i => by
  refine wpAny_Call_method (hbase _) (hfew _) hline pa slot hty (wpAny_mono (h s π i) (fun v s₁ x => ?_) fun _ _ x => x)
  obtain ⟨p, σ₁, π₁, r, i₁, c, d, a, ob, rfl, ha, hob, e⟩ := x
  cases r
  have hT : s₁.TypeIs (.ref a) T ∧ ∀ b, Value.ref a = .ref b → ∃ ob, s₁.heap.get? b = some ob ∧ ob.dict = none := by
    have hro := (i₁.base.store a _ ha).1
    cases ob with
    | list ps =>
      obtain rfl : T = "list" := hob
      obtain ⟨vs, m, hl, _⟩ := hro
      exact ⟨(IsL.isL hl).typeIs, fun b e => by cases e; exact ⟨_, hl, rfl⟩⟩
    | dict kvs =>
      obtain rfl : T = "dict" := hob
      obtain ⟨es, hes, _⟩ := hro
      exact ⟨hes.typeIs, hes.mapOf.noDict⟩
    | inst => exact hob.elim
    | hid => exact hob.elim
  refine ⟨hT.1, hT.2, Calls.callWith_builtin (hplain _) (evalArgs_of hs (wpAny_mono (e s₁ π₁ i₁) (fun vs s₂ y => ?_) fun _ _ x => x))⟩
  obtain ⟨ps, σ₂, π₂, r₂, i₂, c₂, d₂, e₂⟩ := y
  exact wpAny_mono (e₂ s₂ π₂ vs i₂ r₂) (fun z s₃ y => y.after (c.trans c₂) (d.trans d₂)) fun _ _ x => x

theorem m_append {a : Addr} {ps : List PV} {p : PV} (ha : σ a = some (.list ps)) (hl : ps.length ≤ 1000) (h : P .none (upd σ a (.list (ps ++ [p])))) : OpN X (fun vs => call (.builtin "list.append") (.ref a :: vs)) [p] ρ σ P := fun s π vs i r => by
  cases r with
  | cons rz r =>
    cases r
    rename_i z
    obtain ⟨⟨us, m, hv, ra⟩, _⟩ := i.base.store a _ ha
    refine wpAny_list_append_plain ⟨m, hv⟩ (fun h' hp hsb => ?_) (by simp only [List.size_toArray, ra.length]; exact Nat.le_trans hl (by decide))
    have hkp : ∀ b ob, b ≠ a → s.heap.get? b = some ob → h'.get? b = some ob := fun b ob e1 e2 => (hsb.2 b e1).trans e2
    obtain ⟨m', hp⟩ := hp
    refine ⟨.none, _, π, .none, i.setMut (h' := h') (o' := .list (ps ++ [p])) ha (by simp) hkp ⟨us ++ [z], m', ?_, ?_⟩, Adv.setMut ha i.base hkp, ⟨rfl, rfl, rfl⟩, h⟩
    · simpa using hp
    · exact ((ra.append (.cons rz .nil))).mono (upd_free ha hkp)

theorem m_pop1 {a : Addr} {m : List (Int × Sc)} {k : Int} {c : Sc} (ha : σ a = some (.dict m)) (hg : dget m k = some c) (hl : m.length ≤ 1000) (h : P (scPV c) (upd σ a (.dict (dwo m k)))) : OpN X (fun vs => call (.builtin "dict.pop") (.ref a :: vs)) [.int k] ρ σ P := fun s π vs i r => by
  cases r with
  | cons rz r =>
    cases r
    cases rz
    obtain ⟨⟨es, hes, hsc, hne⟩, _⟩ := i.base.store a _ ha
    have := hsc.at k
    rw [hg] at this
    obtain ⟨v, hv, hsv⟩ := this
    refine call_meetsIn PySem.F.slot_dict_pop hes.typeIs PySem.F.entry_dict_pop (PySem.F.args_dict_pop_2 _ _) (meets_dict_pop_there (intKind C.prog C.w) a (intKind_is _ _ _ _) [] (.inl rfl) rfl) ⟨es, v, hes, by rw [hsc.refl_len]; exact Nat.le_trans hl (by decide), hv, fun h' hd hsb => ?_⟩
    have hkp : ∀ b ob, b ≠ a → s.heap.get? b = some ob → h'.get? b = some ob := fun b ob e1 e2 => (hsb.2 b e1).trans e2
    exact ⟨_, _, π, hsv.rv, i.setMut (h' := h') (o' := .dict (dwo m k)) ha (by simp) hkp ⟨_, hd, hsc.without k, hne⟩, Adv.setMut ha i.base hkp, ⟨rfl, rfl, rfl⟩, h⟩
theorem dwo_none {m : List (Int × Sc)} {k : Int} (h : dget m k = none) : dwo m k = m := by
  unfold dwo
  rw [List.filter_eq_self]
  intro kv hkv
  refine decide_eq_true fun e => ?_
  unfold dget at h
  rw [List.lookup_eq_none_iff] at h
  have := h kv hkv
  rw [e] at this
  simp at this
theorem upd_same {a : Addr} {o : PObj} (ha : σ a = some o) : upd σ a o = σ := by
  funext b
  unfold upd
  split
  · rename_i e; rw [e]; exact ha.symm
  · rfl
theorem m_pop2 {a : Addr} {m : List (Int × Sc)} {k : Int} (ha : σ a = some (.dict m)) (hl : m.length ≤ 1000) (h : ∀ p, (p = .none ∨ ∃ c, p = scPV c) → P p (upd σ a (.dict (dwo m k)))) : OpN X (fun vs => call (.builtin "dict.pop") (.ref a :: vs)) [.int k, .none] ρ σ P := fun s π vs i r => by
  cases r with
  | cons rz r =>
    cases r with
    | cons ry r =>
      cases r
      cases ry
      cases rz
      obtain ⟨⟨es, hes, hsc, hne⟩, _⟩ := i.base.store a _ ha
      have := hsc.at k
      cases hg : dget m k with
      | none =>
        rw [hg] at this
        refine call_meetsIn PySem.F.slot_dict_pop hes.typeIs PySem.F.entry_dict_pop (PySem.F.args_dict_pop_3 _ _ _) (meets_dict_pop_default (intKind C.prog C.w) a (intKind_is _ _ _ _) hne rfl .none) ⟨es, hes, this, ?_⟩
        refine .tok i .none ?_
        have e := h .none (.inl rfl)
        rwa [dwo_none hg, upd_same ha] at e
      | some c =>
        rw [hg] at this
        obtain ⟨v, hv, hsv⟩ := this
        refine call_meetsIn PySem.F.slot_dict_pop hes.typeIs PySem.F.entry_dict_pop (PySem.F.args_dict_pop_3 _ _ _) (meets_dict_pop_there (intKind C.prog C.w) a (intKind_is _ _ _ _) [_] (.inr ⟨_, rfl⟩) rfl) ⟨es, v, hes, by rw [hsc.refl_len]; exact Nat.le_trans hl (by decide), hv, fun h' hd hsb => ?_⟩
        have hkp : ∀ b ob, b ≠ a → s.heap.get? b = some ob → h'.get? b = some ob := fun b ob e1 e2 => (hsb.2 b e1).trans e2
        exact ⟨_, _, π, hsv.rv, i.setMut (h' := h') (o' := .dict (dwo m k)) ha (by simp) hkp ⟨_, hd, hsc.without k, hne⟩, Adv.setMut ha i.base hkp, ⟨rfl, rfl, rfl⟩, h _ (.inr ⟨c, rfl⟩)⟩

-- builtins by name
theorem e_callB {f : Str} {id : String} {fp pos : Pos} {args : List Expr} (hb : bootBuiltins f = some (.builtin id)) (hm : f ∈ (["max", "int", "len", "list", "tuple", "range", "dict", "sorted"] : List Str))
    (h : WpEs X pos args ρ σ fun ps σ₁ => OpN X (fun vs => call (.builtin id) vs) ps ρ σ₁ P) (hk : kt.lookup f = some .globalImplicit := by rfl) (hs : NoStar args := by first | exact .inl rfl | exact .inr ⟨_, _, rfl, fun _ => rfl⟩)
    (hplain : ∀ env, (backTo pos (starEach args env)).any (·.1) = false := by intro _; rfl) (hd : (f == ("__debug__" : Str)) = false := by decide) (hn : f ≠ "__name__" := by decide) :
    WpE X (.Call (.Name f fp) args [] pos) ρ σ P := fun s π i => by
  refine wpAny_Call_NameR (Calls.Name_function_global X.kind ((X.names f).trans hk) (Calls.loadGlobal_builtin (mg := C.mg) (mb := C.mb) (by rw [X.globals]; exact X.ok.g.keeps i.base.base) (X.ok.free f hm) (by rw [X.builtins]; exact X.ok.b.keeps i.base.base) ((X.ok.builtins f hn).trans hb) ?_) hd)
  refine Calls.callWith_builtin (hplain _) (evalArgs_of hs (wpAny_mono (h s π i) (fun vs s₁ x => ?_) fun _ _ x => x))
  obtain ⟨ps, σ₁, π₁, r, i₁, c, d, e⟩ := x
  rw [List.nil_append]
  exact wpAny_mono (e s₁ π₁ vs i₁ r) (fun z s₃ y => y.after c d) fun _ _ x => x
theorem e_callT {f : Str} {id : String} {fp pos : Pos} {args : List Expr} (hb : bootBuiltins f = some (.type id)) (hm : f ∈ (["max", "int", "len", "list", "tuple", "range", "dict", "sorted"] : List Str))
    (h : WpEs X pos args ρ σ fun ps σ₁ => OpN X (fun vs => call (.type id) vs) ps ρ σ₁ P) (hk : kt.lookup f = some .globalImplicit := by rfl) (hs : NoStar args := by first | exact .inl rfl | exact .inr ⟨_, _, rfl, fun _ => rfl⟩)
    (hplain : ∀ env, (backTo pos (starEach args env)).any (·.1) = false := by intro _; rfl) (hd : (f == ("__debug__" : Str)) = false := by decide) (hn : f ≠ "__name__" := by decide) :
    WpE X (.Call (.Name f fp) args [] pos) ρ σ P := fun s π i => by
  refine wpAny_Call_NameR (Calls.Name_function_global X.kind ((X.names f).trans hk) (Calls.loadGlobal_builtin (mg := C.mg) (mb := C.mb) (by rw [X.globals]; exact X.ok.g.keeps i.base.base) (X.ok.free f hm) (by rw [X.builtins]; exact X.ok.b.keeps i.base.base) ((X.ok.builtins f hn).trans hb) ?_) hd)
  refine PySem.callWith_type (hplain _) (evalArgs_of hs (wpAny_mono (h s π i) (fun vs s₁ x => ?_) fun _ _ x => x))
  obtain ⟨ps, σ₁, π₁, r, i₁, c, d, e⟩ := x
  rw [List.nil_append]
  exact wpAny_mono (e s₁ π₁ vs i₁ r) (fun z s₃ y => y.after c d) fun _ _ x => x

theorem f_max {a b : Int} (h : P (.int (if b > a then b else a)) σ) : OpN X (fun vs => call (.builtin "max") vs) [.int a, .int b] ρ σ P := fun s π vs i r => by
  cases r with
  | cons r1 r =>
    cases r with
    | cons r2 r =>
      cases r; cases r1; cases r2
      refine max_two_ints X.lv.1 fun h' tk hk => ?_
      refine ⟨_, σ, π, ?_, i.grow hk, Adv.grow hk, ⟨rfl, rfl, rfl⟩, h⟩
      split
      · exact .int _ _
      · exact .int _ _
theorem f_int {b : Bool} (h : P (.int (if b = true then 1 else 0)) σ) : OpN X (fun vs => call (.type "int") vs) [.bool b] ρ σ P := fun s π vs i r => by
  cases r with
  | cons r1 r => cases r; cases r1; exact call_int_bool (.tok i (.int _ _) h)
theorem f_lenL {ps : List PV} (hl : ps.length ≤ 1000) (h : P (.int (ps.length : Nat)) σ) : OpN X (fun vs => call (.builtin "len") vs) [.lst ps] ρ σ P := fun s π vs i r => by
  cases r with
  | cons r1 r =>
    cases r
    cases r1 with
    | @lst a us m _ ha f ra =>
      have e : us.toArray.size = ps.length := by simp [ra.length]
      refine PySem.Calls.call_len_list (IsL.isL ha) (by rw [e]; omega) (.tok (p := .int (ps.length : Nat)) i ?_ h)
      rw [e]; exact .int _ _
theorem f_listT {ps : List PV} (hl : ps.length ≤ 1000) (h : P (.lst ps) σ) : OpN X (fun vs => call (.type "list") vs) [.tup ps] ρ σ P := fun s π vs i r => by
  cases r with
  | cons r1 r =>
    cases r
    cases r1 with
    | @tup a us m _ ha f ra =>
      have e : us.toArray.size = ps.length := by simp [ra.length]
      refine call_list_seq a (.inr rfl) ha rfl rfl (fun h' c' hk hn => ?_) (by rw [e]; exact Nat.le_trans hl (by decide))
      exact ⟨.lst ps, σ, π, .lst hn ⟨i.base.freshσ (get?_size _), i.base.freshπ (get?_size _)⟩ (ra.mono fun b o e f => ⟨hk b o e, f⟩), i.grow hk, Adv.grow hk, ⟨rfl, rfl, rfl⟩, h⟩
theorem f_listL {ps : List PV} (hl : ps.length ≤ 1000) (h : P (.lst ps) σ) : OpN X (fun vs => call (.type "list") vs) [.lst ps] ρ σ P := fun s π vs i r => by
  cases r with
  | cons r1 r =>
    cases r
    cases r1 with
    | @lst a us m _ ha f ra =>
      have e : us.toArray.size = ps.length := by simp [ra.length]
      refine call_list_seq a (.inl rfl) ha rfl rfl (fun h' c' hk hn => ?_) (by rw [e]; exact Nat.le_trans hl (by decide))
      exact ⟨.lst ps, σ, π, .lst hn ⟨i.base.freshσ (get?_size _), i.base.freshπ (get?_size _)⟩ (ra.mono fun b o e f => ⟨hk b o e, f⟩), i.grow hk, Adv.grow hk, ⟨rfl, rfl, rfl⟩, h⟩
theorem f_tupT {ps : List PV} (h : P (.tup ps) σ) : OpN X (fun vs => call (.type "tuple") vs) [.tup ps] ρ σ P := fun s π vs i r => by
  cases r with
  | cons r1 r =>
    cases r
    have r1' := r1
    cases r1 with
    | @tup a us m _ ha f ra => exact call_tuple_same (IsT.isTuple ha) (.here i r1' h)
theorem f_tupL {ps : List PV} (hl : ps.length ≤ 1000) (h : P (.tup ps) σ) : OpN X (fun vs => call (.type "tuple") vs) [.lst ps] ρ σ P := fun s π vs i r => by
  cases r with
  | cons r1 r =>
    cases r
    cases r1 with
    | @lst a us m _ ha f ra =>
      have e : us.toArray.size = ps.length := by simp [ra.length]
      refine call_tuple_list (IsL.isL ha) (fun h' hk => ?_) (by rw [e]; exact Nat.le_trans hl (by decide))
      have i' := i.grow hk
      exact ⟨.tup ps, σ, π, newTup i'.base (ra.mono fun b o e f => ⟨hk b o e, f⟩), i'.grow (pushed _), (Adv.grow hk).trans (Adv.grow (pushed _)), ⟨rfl, rfl, rfl⟩, h⟩
theorem f_range {k : Int} (h : P (.rng k) σ) : OpN X (fun vs => call (.type "range") vs) [.int k] ρ σ P := fun s π vs i r => by
  cases r with
  | cons r1 r =>
    cases r
    cases r1 with
    | int _ t0 =>
    refine call_range_1 ⟨.rng k, σ, π, .rng (t := s.toks) (u := t0) (v := s.toks + 1) ?_ ⟨i.base.freshσ (get?_size _), i.base.freshπ (get?_size _)⟩, i.grow (pushed _), Adv.grow (pushed _), ⟨rfl, rfl, rfl⟩, h⟩
    exact Heap.get?_push_size _ rfl
theorem f_dict {m : List (Int × Sc)} (hl : m.length ≤ 1000) (h : P (.dct m) σ) : OpN X (fun vs => call (.type "dict") vs) [.dct m] ρ σ P := fun s π vs i r => by
  cases r with
  | cons r1 r =>
    cases r
    cases r1 with
    | @dct a _ hd f =>
      obtain ⟨es, hes, hsc, hne⟩ := hd
      refine kt_call_dict hne hes (by rw [hsc.refl_len]; exact Nat.le_trans hl (by decide)) fun h' hd' hsb => ?_
      have hf := get?_size s.heap
      have hk : ∀ b o, s.heap.get? b = some o → h'.get? b = some o := fun b o e => (hsb.2 b fun z => by subst z; rw [hf] at e; cases e).trans (pushed _ b o e)
      obtain ⟨_, _, _, hne'⟩ := newDict0 X.ok i.base
      exact ⟨.dct m, σ, π, .dct ⟨es, hd', hsc, hne'⟩ ⟨i.base.freshσ hf, i.base.freshπ hf⟩, i.grow hk, Adv.grow hk, ⟨rfl, rfl, rfl⟩, h⟩
theorem f_dictM {m : List (Int × Sc)} (hl : m.length ≤ 1000) (h : ∀ a, σ a = none → P (.ref a) (upd σ a (.dict m))) : OpN X (fun vs => call (.type "dict") vs) [.dct m] ρ σ P := fun s π vs i r => by
  cases r with
  | cons r1 r =>
    cases r
    cases r1 with
    | @dct a _ hd f =>
      obtain ⟨es, hes, hsc, hne⟩ := hd
      refine kt_call_dict hne hes (by rw [hsc.refl_len]; exact Nat.le_trans hl (by decide)) fun h' hd' hsb => ?_
      have hf := get?_size s.heap
      have hk : ∀ b o, s.heap.get? b = some o → h'.get? b = some o := fun b o e => (hsb.2 b fun z => by subst z; rw [hf] at e; cases e).trans (pushed _ b o e)
      obtain ⟨_, _, _, hne'⟩ := newDict0 X.ok i.base
      exact ⟨.ref _, _, π, .ref _, i.newMut (o := .dict m) hf hk ⟨es, hd', hsc, hne'⟩, Adv.newMut hf hk, ⟨rfl, rfl, rfl⟩, h _ (i.base.freshσ hf)⟩
end

-- freezing
mutual
def sub (a : Addr) (q : PV) : PV → PV
  | .ref b => if b = a then q else .ref b
  | .tup ps => .tup (subs a q ps)
  | .lst ps => .lst (subs a q ps)
  | .none => .none
  | .bool b => .bool b
  | .int i => .int i
  | .str x => .str x
  | .dct m => .dct m
  | .rng n => .rng n
def subs (a : Addr) (q : PV) : List PV → List PV
  | [] => []
  | p :: ps => sub a q p :: subs a q ps
end
section
variable {C : Ctx} {h : Heap} {σ : Store} {π : Priv} {a : Addr} {q : PV}
mutual
theorem RV.sub (hq : RV C h σ π (.ref a) q) : ∀ {v : Value} {p : PV}, RV C h σ π v p → RV C h σ π v (sub a q p)
  | _, _, .none => by unfold Mine.sub; exact .none
  | _, _, .bool b => by unfold Mine.sub; exact .bool b
  | _, _, .int i t => by unfold Mine.sub; exact .int i t
  | _, _, .str x t => by unfold Mine.sub; exact .str x t
  | _, _, .tup x f r => by unfold Mine.sub; exact .tup x f (RVs.sub hq r)
  | _, _, .lst x f r => by unfold Mine.sub; exact .lst x f (RVs.sub hq r)
  | _, _, .dct x f => by unfold Mine.sub; exact .dct x f
  | _, _, .rng x f => by unfold Mine.sub; exact .rng x f
  | _, _, .ref b => by
    unfold Mine.sub
    by_cases e : b = a
    · rw [if_pos e, e]; exact hq
    · rw [if_neg e]; exact .ref b
theorem RVs.sub (hq : RV C h σ π (.ref a) q) : ∀ {vs : List Value} {ps : List PV}, RVs C h σ π vs ps → RVs C h σ π vs (subs a q ps)
  | _, _, .nil => by unfold Mine.subs; exact .nil
  | _, _, .cons x r => by unfold Mine.subs; exact .cons (RV.sub hq x) (RVs.sub hq r)
end
end

section
variable {C : Ctx} {n : Nat} {kt : List (Str × NameKind)} {X : Cx C n kt} {ρ ρ' : Loc} {σ σ' : Store} {π π' : Priv} {s s' : Shared} {h h' : Heap} {P P' : PV → Store → Prop} {Qn : Loc → Store → Prop} {Qr : PV → Store → Prop}

theorem era_free {a : Addr} : ∀ b o, h.get? b = some o → Free σ π b → h.get? b = some o ∧ Free (era σ a) π b := fun b o e f => ⟨e, by show (if b = a then none else σ b) = none; split <;> first | rfl | exact f.1, f.2⟩
theorem BaseS.era {a : Addr} {o : PObj} (B : BaseS C σ π h) (ha : σ a = some o) (hh : o ≠ .hid) : BaseS C (era σ a) π h :=
  B.change (K := fun _ => False) (fun b ob e _ => e) (fun _ z => z.elim) (fun b ob e f => ⟨id, (era_free b ob e f).2⟩)
    (fun b ob e => by
      have q : σ b = some ob := by
        have e' : (if b = a then none else σ b) = some ob := e
        split at e'
        · cases e'
        · exact e'
      exact .inl ⟨q, id, (B.store b ob q).2.2⟩)
    (fun d e => by
      show (if d = a then none else σ d) = _
      rw [if_neg (fun z => by subst z; rw [ha] at e; cases e; exact hh rfl)]; exact e)
    fun b e => ⟨.inl e, (B.priv b e).2⟩
theorem Adv.era {own : Addr → Prop} {a : Addr} : Adv own σ π h (era σ a) π h := by
  refine ⟨fun b o e _ => e, fun b f nf => (nf ?_).elim, fun _ e => e⟩
  exact ⟨by show (if b = a then none else σ b) = none; split <;> first | rfl | exact f.1, f.2⟩

theorem Sim.era {a : Addr} {o : PObj} (i : Sim X ρ σ π h) (ha : σ a = some o) (hh : o ≠ .hid) : Sim X ρ (era σ a) π h :=
  i.other (i.base.era ha hh) era_free (fun _ e => e) (fun o e => e) fun n c hc o e => e
/-- a variable is read anew -/
theorem Sim.reread {x : Str} {p q : PV} (i : Sim X ρ σ π h) (hx : get ρ x = some p) (hq : ∀ v, RV C h σ π v p → RV C h σ π v q) : Sim X ((x, q) :: ρ) σ π h := by
  refine ⟨i.base, ?_, i.privL, i.ownπ, fun n c e => ?_⟩
  · obtain ⟨m, hm, hv⟩ := i.ns
    refine ⟨m, hm, fun y r e k => ?_⟩
    rw [get_cons] at e
    split at e
    · cases e
      rename_i z
      subst z
      obtain ⟨v, h1, h2⟩ := hv _ p hx k
      exact ⟨v, h1, hq v h2⟩
    · exact hv y r e k
  · obtain ⟨h1, h2, v, h3, h4⟩ := i.cells n c e
    refine ⟨h1, h2, v, h3, fun r e k => ?_⟩
    rw [get_cons] at e
    split at e
    · cases e
      rename_i z
      subst z
      obtain ⟨w, h5, h6⟩ := h4 p hx k
      exact ⟨w, h5, hq w h6⟩
    · exact h4 r e k
theorem frozenL {a : Addr} {ps : List PV} (B : BaseS C σ π h) (ha : σ a = some (.list ps)) : RV C h (era σ a) π (.ref a) (.lst ps) := by
  obtain ⟨⟨vs, m, hl, r⟩, _, hp⟩ := B.store a _ ha
  exact .lst hl ⟨by show (if a = a then none else σ a) = none; rw [if_pos rfl], hp⟩ (r.mono era_free)
theorem frozenD {a : Addr} {kvs : List (Int × Sc)} (B : BaseS C σ π h) (ha : σ a = some (.dict kvs)) : RV C h (era σ a) π (.ref a) (.dct kvs) := by
  obtain ⟨hd, _, hp⟩ := B.store a _ ha
  exact .dct hd ⟨by show (if a = a then none else σ a) = none; rw [if_pos rfl], hp⟩
theorem s_freezeL {ss : List Stmt} {x : Str} {a : Addr} {ps : List PV} {p : PV} (hx : get ρ x = some p) (ha : σ a = some (.list ps)) (h : WpS X ss ((x, Mine.sub a (.lst ps) p) :: ρ) (Mine.era σ a) Qn Qr) : WpS X ss ρ σ Qn Qr := fun s π i => by
  have i₁ := (i.era ha (by simp)).reread hx fun v r => RV.sub (frozenL i.base ha) r
  exact wpAny_mono (h s π i₁) (fun f s₁ y => y.after (s₁ := s) Adv.era (Same.refl _)) fun _ _ x => x
theorem s_freezeD {ss : List Stmt} {x : Str} {a : Addr} {kvs : List (Int × Sc)} {p : PV} (hx : get ρ x = some p) (ha : σ a = some (.dict kvs)) (h : WpS X ss ((x, Mine.sub a (.dct kvs) p) :: ρ) (Mine.era σ a) Qn Qr) : WpS X ss ρ σ Qn Qr := fun s π i => by
  have i₁ := (i.era ha (by simp)).reread hx fun v r => RV.sub (frozenD i.base ha) r
  exact wpAny_mono (h s π i₁) (fun f s₁ y => y.after (s₁ := s) Adv.era (Same.refl _)) fun _ _ x => x

-- a dict is lent for one expression
def Simple (σ : Store) : Prop := ∀ b o, σ b = some o → match o with | .list ps => ∃ ns : List Int, ps = ns.map PV.int | .dict _ => True | _ => False
theorem RVs.ofInts {ns : List Int} : ∀ {vs : List Value}, RVs C h σ π vs (ns.map PV.int) → RVs C h' σ' π' vs (ns.map PV.int) := by
  induction ns with
  | nil => intro vs r; cases r; exact .nil
  | cons k ns ih => intro vs r; cases r with | cons a b => cases a; exact .cons (.int _ _) (ih b)
theorem e_borrow {e : Expr} {x : Str} {a : Addr} {kvs : List (Int × Sc)} (hx : get ρ x = some (.ref a)) (ha : σ a = some (.dict kvs)) (hs : Simple σ)
    (h : WpE X e ((x, .dct kvs) :: ρ) (Mine.era σ a) fun p σ' => σ' = Mine.era σ a ∧ ∃ ns : List Int, p = .lst (ns.map PV.int) ∧ P p σ) : WpE X e ρ σ P := fun s π i => by
  have i₁ : Sim X ((x, .dct kvs) :: ρ) (Mine.era σ a) π s.heap := (i.era ha (by simp)).reread hx fun v r => by
    cases r; exact frozenD i.base ha
  refine wpAny_mono (h s π i₁) (fun v s₁ y => ?_) fun _ _ x => x
  obtain ⟨p, σ', π', r, i₂, adv, sm, rfl, ns, rfl, hP⟩ := y
  obtain ⟨⟨l, hl, hsc, hne⟩, h0, hpa⟩ := i.base.store a _ ha
  obtain ⟨o, es, ep, ho, hex, hrest⟩ := hl
  have fa : Free (Mine.era σ a) π a := ⟨by show (if a = a then none else σ a) = none; rw [if_pos rfl], hpa⟩
  have ha' := adv.keep a o ho (.inl fa)
  have hpa' := (adv.free fa ho).2
  have hfr : ∀ {b : Addr}, Free σ π b → Free (Mine.era σ a) π b := fun f => ⟨by show (if _ = a then none else σ _) = none; split <;> first | rfl | exact f.1, f.2⟩
  have hro : ∀ b ob, σ b = some ob → RO C s₁.heap σ π' b ob ∧ C.h₀.get? b = none ∧ ¬ π' b := by
    intro b ob e
    by_cases z : b = a
    · subst z
      rw [ha] at e; cases e
      exact ⟨⟨l, ⟨o, es, ep, ha', hex, hrest⟩, hsc, hne⟩, h0, hpa'⟩
    · have e' : Mine.era σ a b = some ob := by show (if b = a then none else σ b) = _; rw [if_neg z]; exact e
      have q := i₂.base.store b ob e'
      refine ⟨?_, q.2⟩
      have hsb := hs b ob e
      cases ob with
      | list ps =>
        obtain ⟨ns, rfl⟩ := hsb
        obtain ⟨vs, m, h1, h2⟩ := q.1
        exact ⟨vs, m, h1, h2.ofInts⟩
      | dict m => exact q.1
      | inst => exact hsb.elim
      | hid => exact hsb.elim
  have B : BaseS C σ π' s₁.heap := ⟨i₂.base.base, hro, i₂.base.priv⟩
  have advσ : Adv noOwn σ π s.heap σ π' s₁.heap := by
    refine ⟨fun b ob e hb => adv.keep b ob e (hb.imp hfr id), fun b f nf => adv.fresh b (hfr f) fun q => nf ⟨f.1, q.2⟩, adv.priv⟩
  refine ⟨_, σ, π', ?_, i.call B advσ, advσ, sm, hP⟩
  cases r with
  | @lst b vs m _ hb fb rb =>
    have hba : b ≠ a := fun z => by
      subst z
      have hb' : s₁.heap.get? b = some _ := hb
      rw [ha'] at hb'
      cases hb'
      exact absurd (Value.type.inj hex.1) (by decide)
    refine .lst hb ⟨?_, fb.2⟩ rb.ofInts
    have := fb.1
    have e' : (if b = a then none else σ b) = none := this
    rwa [if_neg hba] at e'

-- sorted of a dict
theorem intsAre_of {l : List (Int × Value)} : ∀ {vs : List Value}, vs.length = l.length → (∀ (j : Nat) (v : Value), vs[j]? = some v → ∃ k x, l[j]? = some (k, x) ∧ (intKind C.prog C.w).is k v = true) → IntsAre vs (l.map (·.1)) := by
  induction l with
  | nil => intro vs e _; cases vs with | nil => exact .nil | cons => cases e
  | cons kv l ih =>
    intro vs e hj
    cases vs with
    | nil => cases e
    | cons v vs =>
      obtain ⟨k, x, h1, h2⟩ := hj 0 v rfl
      cases h1
      obtain ⟨t, rfl⟩ := Value.isInt_shape (show Value.isInt k v = true from h2)
      exact .cons k t (ih (by simpa using e) fun j v e => hj (j + 1) v (by simpa using e))
theorem intsRV {vs : List Value} {ns : List Int} (x : IntsAre vs ns) : RVs C h σ π vs (ns.map PV.int) := by
  induction x with
  | nil => exact .nil
  | cons k t _ ih => exact .cons (.int k t) ih
theorem f_sorted {m : List (Int × Sc)} (hl : m.length < 64) (h : ∀ ns : List Int, ns.Perm (m.map (·.1)) → ns.Pairwise (· ≤ ·) → P (.lst (ns.map PV.int)) σ) : OpN X (fun vs => call (.builtin "sorted") vs) [.dct m] ρ σ P := fun s π vs i r => by
  cases r with
  | cons r1 r =>
    cases r
    cases r1 with
    | @dct a _ hd f =>
      obtain ⟨es, hes, hsc, hne⟩ := hd
      obtain ⟨ep, hat⟩ := hes.dictAt
      have hlen : es.length = m.length := hsc.refl_len
      have hkeys : es.map (·.1) = m.map (·.1) := by
        have := hsc.keys
        have e1 : (es.map (fun kv => PV.int kv.1)) = (es.map (·.1)).map PV.int := by simp [Function.comp_def]
        have e2 : (m.map (fun kv => PV.int kv.1)) = (m.map (·.1)).map PV.int := by simp [Function.comp_def]
        rw [e1, e2] at this
        have inj : ∀ {l l' : List Int}, l.map PV.int = l'.map PV.int → l = l' := by
          intro l
          induction l with
          | nil => intro l' e; cases l' with | nil => rfl | cons => cases e
          | cons k l ih => intro l' e; cases l' with | nil => cases e | cons k' l' => simp only [List.map_cons, List.cons.injEq, PV.int.injEq] at e; rw [e.1, ih e.2]
        exact inj this
      refine Calls.call_function_entry kind_sorted plain_sorted entry_sorted (args_sorted1 _) ?_
      unfold Builtin.«sorted»
      refine wpAny_bind (m := checkCount "sorted" 1 1 _) (wpAny_pure ?_)
      refine wpAny_bind (kdu_collect (A := X.A.in1) (kdl_dict (knd := intKind C.prog C.w) (kvs := es) (ep := ep) hne) X.lv.1 hat (by rw [hlen]; exact Nat.le_trans (Nat.le_of_lt hl) (by decide)) fun h' tk acc hk hacc => ?_)
      refine wpAny_bind (wpAny_newList ?_ (by rw [Array.length_toList, hacc.1, hlen]; exact Nat.le_trans (Nat.le_of_lt hl) (by decide)))
      have hI : IntsAre acc.toList (es.map (·.1)) := intsAre_of (by rw [Array.length_toList]; exact hacc.1) fun j v e => hacc.2 j v (by rw [← Array.getElem?_toList]; exact e)
      have hoL : (h'.push (seqObj "list" acc.toList.toArray 0)).get? h'.objs.size = some (seqObj "list" acc.toList.toArray 0) := Heap.get?_push_size _ rfl
      have hf' := get?_size h'
      refine wpAny_bind (wpAny_holding (wpAny_call_entry slot_list_sort ⟨_, hoL, rfl⟩ entry_list_sort (list_sort_tree hoL hI (by rw [Array.length_toList, hacc.1, hlen]; exact hl) fun out ns' a1 a2 a3 => ⟨_, rfl, ?_⟩) (args_list_sort _)))
      refine wpAny_pure ?_
      have hk2 : ∀ b o, s.heap.get? b = some o → (sortedHeap (h'.push (seqObj "list" acc.toList.toArray 0)) h'.objs.size acc.toList out).get? b = some o := by
        intro b o e
        have e1 := hk b o e
        have hb : b ≠ h'.objs.size := fun z => by rw [z, hf'] at e1; cases e1
        unfold sortedHeap
        rw [Heap.get?_update_other _ _ (Ne.symm hb)]
        refine Heap.get?_push_of_some _ (Heap.get?_push_of_some _ ?_)
        rw [Heap.get?_update_other _ _ (Ne.symm hb)]
        exact Heap.get?_push_of_some _ e1
      obtain ⟨n', hD⟩ : ∃ n', (sortedHeap (h'.push (seqObj "list" acc.toList.toArray 0)) h'.objs.size acc.toList out).get? h'.objs.size = some (seqObj "list" out n') := by
        unfold sortedHeap
        obtain ⟨e1, ho1⟩ : ∃ e1, ((h'.push (seqObj "list" acc.toList.toArray 0)).update h'.objs.size (Obj.mapSeq fun _ => #[])).get? h'.objs.size = some (seqObj "list" #[] e1) := ⟨_, get?_update_seq hoL (fun _ => #[])⟩
        exact ⟨_, get?_update_seq (Heap.get?_push_of_some _ (Heap.get?_push_of_some _ ho1)) (fun _ => out)⟩
      have hfa : h'.objs.size ≠ a := by
        obtain ⟨o, _, _, ho, _⟩ := hes
        exact fun z => by have := hk a o ho; rw [← z, hf'] at this; cases this
      have hnone : s.heap.get? h'.objs.size = none := by
        cases q : s.heap.get? h'.objs.size with
        | none => rfl
        | some o => have := hk _ o q; rw [hf'] at this; cases this
      refine ⟨_, rfl, .lst (ns'.map PV.int), σ, π, .lst (vs := out.toList) (n := n') ?_ ⟨i.base.freshσ hnone, i.base.freshπ hnone⟩ (intsRV a1), i.grow hk2, Adv.grow hk2, ⟨rfl, rfl, rfl⟩, h ns' (hkeys ▸ a2) a3⟩
      simpa using hD

-- slices of a tuple
theorem adjust_upto (b n : Nat) (hb : b ≤ n) : Builtin.Slice.sliceAdjust none (some (b : Int)) 1 (n : Int) = (0, (b : Int)) := by
  unfold Builtin.Slice.sliceAdjust
  have h1 : ¬ ((1 : Int) < 0) := by omega
  have h2 : ¬ ((b : Int) < 0) := by omega
  simp only [h1, h2, if_false]
  congr 1
  omega
theorem places_upto (b : Nat) : Builtin.Slice.slicePlaces 0 (b : Int) 1 = b := by
  unfold Builtin.Slice.slicePlaces
  have h1 : (1 : Int) > 0 := by omega
  simp only [h1, if_true, Int.ediv_one]
  split <;> omega
section
variable {prog : Program} {w : World} {A : Around} {E : Value → Shared → Prop}
theorem sliceApplied_upto {sl : Addr} {b n : Nat} {u : Tok} {Q : Int × Int × Nat → Shared → Prop} (hs : s.heap.IsSliceOf sl .none (.int b u) .none) (hb : b ≤ n) (h : Q (0, 1, b) s) :
    wpAny (model prog w) A (Builtin.Slice.sliceApplied (.ref sl) (pure (n : Int))) Q E s := by
  obtain ⟨os, hos, hcs, hds⟩ := id hs
  unfold Builtin.Slice.sliceApplied Builtin.Slice.sliceFields
  refine wpAny_bind (wpAny_bind (wpAny_field hos hds (x := .none) rfl (wpAny_bind (wpAny_field hos hds (x := .int b u) rfl (wpAny_bind (wpAny_field hos hds (x := .none) rfl (wpAny_pure ?_)))))))
  refine wpAny_bind (slicePart_none ?_)
  show wpAny _ _ (if ((1 : Int) == 0) = true then _ else _) _ _ s
  rw [if_neg (by decide)]
  refine wpAny_bind (slicePart_none (wpAny_bind (slicePart_int (wpAny_bind (wpAny_pure ?_)))))
  show wpAny _ _ (match Builtin.Slice.sliceAdjust none (some (b : Int)) 1 (n : Int) with | (lo, hi) => pure (lo, (1 : Int), Builtin.Slice.slicePlaces lo hi 1)) _ _ s
  rw [adjust_upto b n hb]
  show wpAny _ _ (pure ((0 : Int), (1 : Int), Builtin.Slice.slicePlaces 0 (b : Int) 1)) _ _ s
  rw [places_upto b]
  exact wpAny_pure h
theorem pick_upto (xs : Array Value) (b : Nat) : ((List.range b).filterMap fun (k : Nat) => xs[((0 : Int) + (k : Int) * 1).toNat]?).toArray = (xs.toList.take b).toArray := by
  have e : (fun (k : Nat) => xs[((0 : Int) + (k : Int) * 1).toNat]?) = fun k => xs[0 + k]? := by
    funext k
    have : ((0 : Int) + (k : Int) * 1).toNat = 0 + k := by omega
    rw [this]
  rw [e]
  have := pick_run xs 0 b
  rw [List.filterMap_map] at this
  have e2 : ((fun x => xs[x]?) ∘ fun x => 0 + x) = fun k => xs[0 + k]? := rfl
  rw [e2] at this
  rw [this]; simp
theorem getItem_tuple_upto {t sl : Addr} {items : Array Value} {b : Nat} {u : Tok} {Q : Value → Shared → Prop} (ht : s.heap.IsTuple t items) (hs : s.heap.IsSliceOf sl .none (.int b u) .none) (hb : b < items.size)
    (h : Q (.ref s.heap.objs.size) { s with heap := s.heap.push { cls := .type "tuple", data := .seq (items.toList.take b).toArray } })
    (hsz : items.size ≤ sizeLine) : wpAny (model prog w) A (getItem (.ref t) (.ref sl)) Q E s := by
  have hdrop : sizeOk (.seq (items.toList.take b).toArray) := by
    show (items.toList.take b).toArray.size ≤ sizeLine
    rw [List.size_toArray, List.length_take, Array.length_toList]
    omega
  obtain ⟨os, hos, hcs, hds⟩ := id hs
  have hTs : s.TypeIs (.ref sl) "slice" := ⟨os, hos, hcs⟩
  unfold getItem
  try with_reducible refine wpAny_holding ?_
  first | refine wpAny_bind (wpAny_pure ?_) | skip
  refine wpAny_bind (wpAny_sequenceKey ht.typeIs (by decide) ?_)
  refine wpAny_bind (wpAny_callSpecial?_slot (name := Str.ofString "__getitem__") ht.typeIs slot_tuple_getitem
    (wpAny_call_entry slot_tuple_getitem ht.typeIs entry_tuple_getitem ?_ (args_tuple_getitem _ _)))
  show wpAny _ _ (Builtin.Tuple.tupleItemsOf (.ref t) >>= _) _ _ s
  refine wpAny_bind (tupleItemsOf_ ht ?_)
  refine wpAny_bind (wpAny_typeOf hTs ?_)
  rw [if_pos (by decide)]
  refine wpAny_bind (sliceApplied_upto hs (Nat.le_of_lt hb) ?_)
  have hno : ¬ (((0 : Int) == 0 && (1 : Int) == 1 && b == items.size) = true) := by
    have : (b == items.size) = false := by rw [beq_eq_false_iff_ne]; omega
    rw [this]; simp
  show wpAny _ _ (if ((0 : Int) == 0 && (1 : Int) == 1 && b == items.size) = true then _ else _) _ _ s
  rw [if_neg hno, pick_upto items b]
  first
    | exact wpAny_bind (m := Builtin.Tuple.tupleExact _) (wpAny_newObj_type (wpAny_pure ⟨_, rfl, wpAny_pure h⟩) hdrop)
    | exact wpAny_bind (m := Builtin.Tuple.tupleExact _) (wpAny_newObj_type (wpAny_bind (wpAny_pure (wpAny_pure ⟨_, rfl, wpAny_pure h⟩))) hdrop)
    | exact wpAny_bind (wpAny_bind (m := Builtin.Tuple.tupleExact _) (wpAny_newObj_type (wpAny_pure (wpAny_pure ⟨_, rfl, wpAny_pure h⟩)) hdrop))
    | exact wpAny_bind (wpAny_bind (m := Builtin.Tuple.tupleExact _) (wpAny_newObj_type (wpAny_pure ⟨_, rfl, wpAny_pure h⟩) hdrop))
end

/-- `x[k:]` -/
theorem e_from {l : Expr} {k : Nat} {a : Nat} {kp sp pos : Pos} {ps : List PV} (h : WpE X l ρ σ fun p σ₁ => ∃ ps, p = .tup ps ∧ 1 ≤ k ∧ k ≤ ps.length ∧ ps.length ≤ 1000 ∧ P (.tup (ps.drop k)) σ₁) :
    WpE X (.Subscript l (.Slice (some (.Constant (.int (k : Int)) a kp)) none none sp) pos) ρ σ P := fun s π i => by
  refine Subscript_ (wpAny_mono (h s π i) (fun v s₁ x => ?_) fun _ _ x => x)
  obtain ⟨_, σ₁, π₁, r, i₁, c, d, ps, rfl, h1, h2, h3, hP⟩ := x
  cases r with
  | @tup t vs m _ ht f ra =>
    refine wpAny_Slice ?_
    show wpAny _ _ (eval _ _) _ _ _
    refine wpAny_Constant_int ?_
    show wpAny _ _ (pure Value.none) _ _ _
    refine wpAny_pure ?_
    show wpAny _ _ (pure Value.none) _ _ _
    refine wpAny_pure ?_
    have hlen := ra.length
    have ht' := Heap.get?_push_of_some { cls := .type "slice", data := .fields #[Value.int (k : Int) s₁.toks, Value.none, Value.none] } ht
    have i₂ := i₁.grow (pushed { cls := .type "slice", data := .fields #[Value.int (k : Int) s₁.toks, Value.none, Value.none] })
    refine tail_any (T := "tuple") ⟨_, ht', rfl⟩ slot_tuple_getitem.lookup (getItem_tuple_from (items := vs.toArray) (IsT.isTuple ht') ⟨_, Heap.get?_push_size _ rfl, rfl, rfl⟩ h1 (by simp only [List.size_toArray]; omega) ?_ (by simp only [List.size_toArray, hlen]; exact Nat.le_trans h3 (by decide))) rfl
    have r2 : RVs C (s₁.heap.push { cls := .type "slice", data := .fields #[Value.int (k : Int) s₁.toks, Value.none, Value.none] }) σ₁ π₁ (vs.drop k) (ps.drop k) := (ra.drop k).mono fun b o e f => ⟨pushed _ _ _ e, f⟩
    exact ⟨_, σ₁, π₁, newTup i₂.base r2, i₂.grow (pushed _), c.trans ((Adv.grow (pushed _)).trans (Adv.grow (pushed _))), d.trans ⟨rfl, rfl, rfl⟩, hP⟩
/-- `x[:k]` -/
theorem e_upto {l : Expr} {k : Nat} {a : Nat} {kp sp pos : Pos} {ps : List PV} (h : WpE X l ρ σ fun p σ₁ => ∃ ps, p = .tup ps ∧ k < ps.length ∧ ps.length ≤ 1000 ∧ P (.tup (ps.take k)) σ₁) :
    WpE X (.Subscript l (.Slice none (some (.Constant (.int (k : Int)) a kp)) none sp) pos) ρ σ P := fun s π i => by
  refine Subscript_ (wpAny_mono (h s π i) (fun v s₁ x => ?_) fun _ _ x => x)
  obtain ⟨_, σ₁, π₁, r, i₁, c, d, ps, rfl, h2, h3, hP⟩ := x
  cases r with
  | @tup t vs m _ ht f ra =>
    refine wpAny_Slice ?_
    show wpAny _ _ (pure Value.none) _ _ _
    refine wpAny_pure ?_
    show wpAny _ _ (eval _ _) _ _ _
    refine wpAny_Constant_int ?_
    show wpAny _ _ (pure Value.none) _ _ _
    refine wpAny_pure ?_
    have hlen := ra.length
    have ht' := Heap.get?_push_of_some { cls := .type "slice", data := .fields #[Value.none, Value.int (k : Int) s₁.toks, Value.none] } ht
    have i₂ := i₁.grow (pushed { cls := .type "slice", data := .fields #[Value.none, Value.int (k : Int) s₁.toks, Value.none] })
    refine tail_any (T := "tuple") ⟨_, ht', rfl⟩ slot_tuple_getitem.lookup (getItem_tuple_upto (items := vs.toArray) (IsT.isTuple ht') ⟨_, Heap.get?_push_size _ rfl, rfl, rfl⟩ (by simp only [List.size_toArray]; omega) ?_ (by simp only [List.size_toArray, hlen]; exact Nat.le_trans h3 (by decide))) rfl
    have r2 : RVs C (s₁.heap.push { cls := .type "slice", data := .fields #[Value.none, Value.int (k : Int) s₁.toks, Value.none] }) σ₁ π₁ (vs.take k) (ps.take k) := (ra.take k).mono fun b o e f => ⟨pushed _ _ _ e, f⟩
    exact ⟨_, σ₁, π₁, newTup i₂.base r2, i₂.grow (pushed _), c.trans ((Adv.grow (pushed _)).trans (Adv.grow (pushed _))), d.trans ⟨rfl, rfl, rfl⟩, hP⟩
end

def tops : List Stmt := PySem.Challenge.pw_xm0584_01.main.body
def dParams (i : Nat) : Arguments := match tops[i]? with | some (.FunctionDef _ a _ _ _ _ _ _ _ _) => a | _ => default
def dBody (i : Nat) : List Stmt := match tops[i]? with | some (.FunctionDef _ _ b _ _ _ _ _ _ _) => b | _ => default
def dScope (i : Nat) : Scope := match tops[i]? with | some (.FunctionDef _ _ _ _ _ _ s _ _ _) => s | _ => default

/-- the def at place i of the text stands under the name f -/
abbrev At (C : Ctx) (i : Nat) (f : Str) : Prop := FnAt C f (dParams i) (dBody i) (dScope i)

theorem br_true {c : Bool} {A B : Prop} (h : c = true) (k : A) : (c = true → A) ∧ (c = false → B) := ⟨fun _ => k, fun e => (by rw [h] at e; cases e)⟩
theorem br_false {c : Bool} {A B : Prop} (h : c = false) (k : B) : (c = true → A) ∧ (c = false → B) := ⟨fun e => (by rw [h] at e; cases e), fun _ => k⟩
theorem rb_true {c : Bool} {A B : Prop} (h : c = true) (k : A) : (c = false → B) ∧ (c = true → A) := ⟨fun e => (by rw [h] at e; cases e), fun _ => k⟩
theorem rb_false {c : Bool} {A B : Prop} (h : c = false) (k : B) : (c = false → B) ∧ (c = true → A) := ⟨fun _ => k, fun e => (by rw [h] at e; cases e)⟩

theorem len0 {vs : List Value} (e : vs.length = 0) : vs = [] := List.length_eq_zero_iff.mp e
theorem len1 {vs : List Value} (e : vs.length = 1) : ∃ a, vs = [a] := by match vs, e with | [a], _ => exact ⟨a, rfl⟩
theorem len2 {vs : List Value} (e : vs.length = 2) : ∃ a b, vs = [a, b] := by match vs, e with | [a, b], _ => exact ⟨a, b, rfl⟩
theorem len3 {vs : List Value} (e : vs.length = 3) : ∃ a b c, vs = [a, b, c] := by match vs, e with | [a, b, c], _ => exact ⟨a, b, c, rfl⟩

section
variable {C : Ctx} {n : Nat} {kt : List (Str × NameKind)} {X : Cx C n kt} {ρ ρ' : Loc} {σ σ' : Store} {π π' : Priv} {s s' : Shared} {P P' : PV → Store → Prop} {Qn : Loc → Store → Prop} {Qr : PV → Store → Prop}
theorem as_local' {x : Str} {pos : Pos} {p : PV} {Q : Loc → Store → Prop} (h : Q ((x, p) :: ρ) σ) (hk : kt.lookup x = some .local) : AsW X (.Name x pos) p ρ σ Q := as_local hk h
theorem as_cell' {x : Str} {pos : Pos} {p : PV} {Q : Loc → Store → Prop} (hm : X.mayC) (h : Q ((x, p) :: ρ) σ) (hk : kt.lookup x = some .cell) : AsW X (.Name x pos) p ρ σ Q := as_cell hm hk h

theorem e_from' {l : Expr} {k : Int} {a : Nat} {kp sp pos : Pos} (h : WpE X l ρ σ fun p σ₁ => ∃ ps, p = .tup ps ∧ 1 ≤ k.toNat ∧ k.toNat ≤ ps.length ∧ ps.length ≤ 1000 ∧ P (.tup (ps.drop k.toNat)) σ₁) (hk : (k.toNat : Int) = k) :
    WpE X (.Subscript l (.Slice (some (.Constant (.int k) a kp)) none none sp) pos) ρ σ P := by
  rw [← hk]; exact e_from (ps := []) h
theorem e_upto' {l : Expr} {k : Int} {a : Nat} {kp sp pos : Pos} (h : WpE X l ρ σ fun p σ₁ => ∃ ps, p = .tup ps ∧ k.toNat < ps.length ∧ ps.length ≤ 1000 ∧ P (.tup (ps.take k.toNat)) σ₁) (hk : (k.toNat : Int) = k) :
    WpE X (.Subscript l (.Slice none (some (.Constant (.int k) a kp)) none sp) pos) ρ σ P := by
  rw [← hk]; exact e_upto (ps := []) h

-- a and b as a value
theorem e_and {e₁ e₂ : Expr} {rest : List Expr} {pos : Pos} (h : WpE X e₁ ρ σ fun p σ₁ => ∃ b : Bool, p = .bool b ∧ (b = true → WpE X (.BoolOp .And (e₂ :: rest) pos) ρ σ₁ P) ∧ (b = false → P (.bool false) σ₁)) : WpE X (.BoolOp .And (e₁ :: e₂ :: rest) pos) ρ σ P := fun s π i => by
  refine BoolOp_and (wpAny_mono (h s π i) (fun v s₁ x => ?_) fun _ _ x => x)
  obtain ⟨_, σ₁, π₁, r, b, c, d, bb, rfl, h1, h2⟩ := x
  cases r
  refine wpAny_truthy_bool ?_
  cases bb with
  | true => exact wpAny_mono (h1 rfl s₁ π₁ b) (fun z s₃ y => y.after c d) fun _ _ x => x
  | false => exact ⟨_, σ₁, π₁, .bool false, b, c, d, h2 rfl⟩
theorem e_and1 {e₁ : Expr} {pos : Pos} (h : WpE X e₁ ρ σ P) : WpE X (.BoolOp .And [e₁] pos) ρ σ P := fun s π i => BoolOp_one (h s π i)

-- comparing a dict with its like
theorem hits_same {A : Around} : ∀ {ka kb : List (Int × Value)} {ma mb : List (Int × Sc)}, ScAll ka ma → ScAll kb mb → (∀ k c, (k, c) ∈ ma → dget mb k = some c) → KeqHits A s kb ka true
  | _, _, _, _, .nil, hb, _ => .nil
  | _, kb, _, mb, .cons (k := k) (v := v) (c := c) hv r, hb, h => by
    have hk := hb.at k
    rw [h k c (List.mem_cons_self ..)] at hk
    obtain ⟨y, hy, hyv⟩ := hk
    have e : SeqAt.EqAt A s v y true := by
      cases c with
      | int i =>
        obtain ⟨t, rfl⟩ := hv
        obtain ⟨u, rfl⟩ := hyv
        have := SeqAt.EqAt.int_int (A := A) (s := s) i t i u
        rwa [beq_self_eq_true] at this
      | bool b =>
        have e1 : v = .bool b := hv
        have e2 : y = .bool b := hyv
        subst e1 e2
        exact SeqAt.EqAt.same _
    exact .hit hy e (hits_same r hb fun k c hm => h k c (List.mem_cons_of_mem _ hm))
theorem dget_mem : ∀ {m : List (Int × Sc)}, (m.map (·.1)).Nodup → ∀ k c, (k, c) ∈ m → dget m k = some c
  | [], _, k, c, h => by cases h
  | (k', c') :: m, hn, k, c, h => by
    rw [List.map_cons, List.nodup_cons] at hn
    unfold dget
    rw [List.lookup_cons]
    rcases List.mem_cons.mp h with e | e
    · cases e; simp
    · have : (k == k') = false := beq_eq_false_iff_ne.mpr fun z => hn.1 (List.mem_map.mpr ⟨(k, c), e, z⟩)
      rw [this]
      exact dget_mem hn.2 k c e
theorem ScAll.keys' {l : List (Int × Value)} {m : List (Int × Sc)} (h : ScAll l m) : l.map (·.1) = m.map (·.1) := by
  induction h with
  | nil => rfl
  | cons _ _ ih => simp [ih]
theorem DictR.nodup {h : Heap} {a : Addr} {m : List (Int × Sc)} (x : DictR C h a m) : (m.map (·.1)).Nodup := by
  obtain ⟨l, ⟨o, es, ep, ho, _, _, _, _, hn⟩, hs, _⟩ := x
  rw [← hs.keys']; exact hn
theorem o_eqD {m : List (Int × Sc)} (h : P (.bool true) σ) : Op2 X (compareOp .Eq) (.dct m) (.dct m) ρ σ P := fun s π v u i r r' => by
  cases r with
  | @dct a _ hd f =>
    cases r' with
    | @dct b _ hd' f' =>
      have hn := hd.nodup
      obtain ⟨l, hl, hs, hne⟩ := hd
      obtain ⟨l', hl', hs', hne'⟩ := hd'
      refine keq_eq (r := true) hne hne' hl hl' (by have := X.units; show _ < 9900; omega) (fun _ => hits_same hs hs' (dget_mem hn)) (.here i (.bool _) ?_)
      rw [hs.refl_len, hs'.refl_len]; simpa using h
theorem o_neD {m : List (Int × Sc)} (h : P (.bool false) σ) : Op2 X (compareOp .NotEq) (.dct m) (.dct m) ρ σ P := fun s π v u i r r' => by
  cases r with
  | @dct a _ hd f =>
    cases r' with
    | @dct b _ hd' f' =>
      have hn := hd.nodup
      obtain ⟨l, hl, hs, hne⟩ := hd
      obtain ⟨l', hl', hs', hne'⟩ := hd'
      refine keq_ne (r := true) hne hne' hl hl' (by have := X.units; show _ < 9900; omega) (fun _ => hits_same hs hs' (dget_mem hn)) (.here i (.bool _) ?_)
      rw [hs.refl_len, hs'.refl_len]; simpa using h

-- comprehensions over lists
theorem compL_map {α : Type} {x : Str} {elt : Expr} {f g : α → PV} {Q : List PV → Store → Prop} : ∀ {as : List α} {acc : List PV}, (∀ a ∈ as, ∀ P, P (g a) σ → WpE X elt ((x, f a) :: ρ) σ P) → Q (acc ++ as.map g) σ → CompL X x [] elt ρ (as.map f) acc σ Q
  | [], acc, _, hQ => by show Q acc σ; simpa using hQ
  | a :: as, acc, h, hQ => by
    refine ⟨fun _ => h a (List.mem_cons_self ..) _ ?_, fun e => by cases e⟩
    refine compL_map (fun b hb => h b (List.mem_cons_of_mem _ hb)) ?_
    simpa using hQ
theorem compL_filt {α : Type} {x : Str} {t elt : Expr} {f g : α → PV} {c : α → Bool} {Q : List PV → Store → Prop} : ∀ {as : List α} {acc : List PV}, (∀ a ∈ as, ∀ P, P (c a) σ → WpB X t ((x, f a) :: ρ) σ P) → (∀ a ∈ as, c a = true → ∀ P, P (g a) σ → WpE X elt ((x, f a) :: ρ) σ P) →
    Q (acc ++ (as.filter c).map g) σ → CompL X x [t] elt ρ (as.map f) acc σ Q
  | [], acc, _, _, hQ => by show Q acc σ; simpa using hQ
  | a :: as, acc, ht, h, hQ => by
    refine ht a (List.mem_cons_self ..) _ ⟨fun e => h a (List.mem_cons_self ..) e _ ?_, fun e => ?_⟩
    · refine compL_filt (fun b hb => ht b (List.mem_cons_of_mem _ hb)) (fun b hb => h b (List.mem_cons_of_mem _ hb)) ?_
      rw [List.filter_cons, if_pos e] at hQ
      simpa using hQ
    · refine compL_filt (fun b hb => ht b (List.mem_cons_of_mem _ hb)) (fun b hb => h b (List.mem_cons_of_mem _ hb)) ?_
      rw [List.filter_cons, e] at hQ
      simpa using hQ
/-- a comprehension whose items draw: I i acc σ holds before the i-th turn -/
theorem compL_inv {x : Str} {elt : Expr} {Q : List PV → Store → Prop} (I : Nat → List PV → Store → Prop) : ∀ {ps : List PV} {i : Nat} {acc : List PV} {σ : Store}, (∀ p ∈ ps, ∀ i acc σ, I i acc σ → ∀ P, (∀ q σ', I (i + 1) (acc ++ [q]) σ' → P q σ') → WpE X elt ((x, p) :: ρ) σ P) → I i acc σ →
    (∀ acc' σ', I (i + ps.length) acc' σ' → Q acc' σ') → CompL X x [] elt ρ ps acc σ Q
  | [], i, acc, σ, _, hi, hQ => hQ acc σ hi
  | p :: ps, i, acc, σ, h, hi, hQ => by
    refine ⟨fun _ => h p (List.mem_cons_self ..) i acc σ hi _ fun q σ' hi' => ?_, fun e => by cases e⟩
    refine compL_inv I (i := i + 1) (fun b hb => h b (List.mem_cons_of_mem _ hb)) hi' fun acc' σ' k => hQ acc' σ' ?_
    have e : i + (p :: ps).length = i + 1 + ps.length := by simp only [List.length_cons]; omega
    rw [e]; exact k
/-- a loop: I i ρ σ holds before the i-th turn -/
theorem forL_inv {t : Expr} {body : List Stmt} (I : Nat → Loc → Store → Prop) : ∀ {ps : List PV} {i : Nat} {ρ : Loc} {σ : Store}, (∀ p ∈ ps, ∀ i ρ σ, I i ρ σ → AsW X t p ρ σ fun ρ₁ σ₁ => WpS X body ρ₁ σ₁ (I (i + 1)) Qr) → I i ρ σ →
    (∀ ρ' σ', I (i + ps.length) ρ' σ' → Qn ρ' σ') → ForL X t body Qn Qr ps ρ σ
  | [], i, ρ, σ, _, hi, hQ => hQ ρ σ hi
  | p :: ps, i, ρ, σ, h, hi, hQ => by
    have key : ∀ {ρ₁ : Loc} {σ₁ : Store}, WpS X body ρ₁ σ₁ (I (i + 1)) Qr → WpS X body ρ₁ σ₁ (fun ρ₂ σ₂ => ForL X t body Qn Qr ps ρ₂ σ₂) Qr := fun {ρ₁ σ₁} w s π j => by
      refine wpAny_mono (w s π j) (fun f s₁ y => ?_) fun _ _ x => x
      obtain ⟨ρ', σ', π', a, b, c, d⟩ := y
      refine ⟨ρ', σ', π', a, b, c, ?_⟩
      cases f with
      | next => 
        refine forL_inv I (i := i + 1) (fun b hb => h b (List.mem_cons_of_mem _ hb)) d fun ρ' σ' k => hQ ρ' σ' ?_
        have e : i + (p :: ps).length = i + 1 + ps.length := by simp only [List.length_cons]; omega
        rw [e]; exact k
      | ret v => exact d
      | brk => exact d
      | cont => exact d
    intro s π v j r
    refine wpAny_mono (h p (List.mem_cons_self ..) i ρ σ hi s π v j r) (fun _ s₁ y => ?_) fun _ _ x => x
    obtain ⟨ρ', σ', π', a, b, c, d⟩ := y
    exact ⟨ρ', σ', π', a, b, c, key d⟩
end

/-- the words of the walk -/
local macro_rules
  | `(tactic| walk_at "pl") => `(tactic| (repeat (any_goals (first
      | with_reducible assumption
      | exact Pl.int _ _ | exact Pl.bool _ _ | exact Pl.none _ | exact Pl.str _ (by kernel_rfl!)
      | exact Pls.nil _ | refine Pls.cons ?_ ?_ | refine Pl.tup ?_ | refine Pl.lst ?_
      | exact Pl.mono (by with_reducible assumption) (by decide)
      | exact Pls.mono (by with_reducible assumption) (by decide)))))
local macro_rules
  | `(tactic| walk_at "m") => `(tactic| (first
    | ((with_reducible show WpE _ (.Name _ _) _ _ _); first | refine e_local (by kernel_rfl!) rfl ?_ | refine e_cell (by kernel_rfl!) rfl ?_)
    | ((with_reducible show WpE _ (.Constant _ _ _) _ _ _); first | refine e_int ?_ | refine e_str ?_ | refine e_bool ?_ | refine e_none ?_)
    | ((with_reducible show WpE _ (.Subscript _ (.Slice _ _ _ _) _) _ _ _); first | refine e_from' ?_ rfl | refine e_upto' ?_ rfl)
    | ((with_reducible show WpE _ (.Subscript _ _ _) _ _ _); refine e_sub ?_)
    | ((with_reducible show WpE _ (.Tuple _ _ _) _ _ _); refine e_tuple ?_)
    | ((with_reducible show WpE _ (.List _ _) _ _ _); refine e_list ?_)
    | ((with_reducible show WpE _ (.BinOp _ _ _ _) _ _ _); refine e_bin ?_)
    | ((with_reducible show WpE _ (.UnaryOp _ _ _) _ _ _); refine e_un ?_)
    | ((with_reducible show WpE _ (.Compare _ _ _ _) _ _ _); refine e_cmp ?_)
    | ((with_reducible show WpE _ (.IfExp _ _ _ _) _ _ _); refine e_ifexp ?_)
    | ((with_reducible show WpB _ (.Compare _ _ _ _) _ _ _); refine b_cmp ?_)
    | ((with_reducible show WpB _ (.BoolOp _ _ _) _ _ _); refine b_boolop ?_)
    | ((with_reducible show WpA _ _ [] _ _ _); first | refine a_or_nil ?_ | refine a_and_nil ?_)
    | ((with_reducible show WpA _ _ (_ :: _) _ _ _); first | refine a_or_cons ?_ | refine a_and_cons ?_)
    | ((with_reducible show WpEs _ _ [] _ _ _); refine es_nil ?_)
    | ((with_reducible show WpEs _ _ (_ :: _) _ _ _); refine es_cons ?_)
    | ((with_reducible show WpS _ [] _ _ _ _); refine s_nil ?_)
    | ((with_reducible show WpS _ (_ :: _) _ _ _ _); refine s_cons ?_)
    | ((with_reducible show WpX _ (.If _ _ _ _) _ _ _ _); refine x_if ?_)
    | ((with_reducible show WpX _ (.Return _ _) _ _ _ _); refine x_ret ?_)
    | ((with_reducible show WpX _ (.Assign _ _ _) _ _ _ _); refine x_assign ?_)
    | ((with_reducible show AsW _ (.Name _ _) _ _ _ _); refine as_local' ?_ (by kernel_rfl!))
    | ((with_reducible show AsW _ (.Tuple [_, _] _ _) _ _ _ _); refine as_tup2 ?_)
    | ((with_reducible show TruthW _ _ _ _ _); refine truth_bool ?_)
    | ((with_reducible show Op2 _ (subscriptTail _ _) (.tup _) (.int _) _ _ _); refine t_tup (by decide) rfl (Nat.le_of_ble_eq_true rfl) ?_)
    | ((with_reducible show Op2 _ (subscriptTail _ _) (.lst _) (.int _) _ _ _); refine t_lst (by decide) rfl (Nat.le_of_ble_eq_true rfl) ?_)
    | ((with_reducible show Op2 _ (compareOp .Eq) _ _ _ _ _); refine o_eq (d := 8) (by walk_at "pl") (by walk_at "pl") ?_)
    | ((with_reducible show Op2 _ (compareOp .NotEq) _ _ _ _ _); refine o_ne (d := 8) (by walk_at "pl") (by walk_at "pl") ?_)
    | ((with_reducible show Op2 _ (compareOp .In) _ (.tup _) _ _ _); refine o_inT (d := 8) (by walk_at "pl") (by walk_at "pl") ?_)
    | ((with_reducible show Op2 _ (compareOp .In) _ (.dct _) _ _ _); refine o_inD ?_)
    | ((with_reducible show Op2 _ (compareOp .NotIn) _ (.dct _) _ _ _); refine o_ninD ?_)
    | ((with_reducible show Op2 _ (compareOp .NotIn) _ (.tup _) _ _ _); refine o_ninT (d := 8) (by walk_at "pl") (by walk_at "pl") ?_)
    | ((with_reducible show Op2 _ (compareOp .NotIn) _ (.lst _) _ _ _); refine o_ninL (d := 8) (by walk_at "pl") (by walk_at "pl") ?_)
    | refine br_true (by kernel_rfl!) ?_ | refine br_false (by kernel_rfl!) ?_ | refine rb_true (by kernel_rfl!) ?_ | refine rb_false (by kernel_rfl!) ?_
    | ((with_reducible refine And.intro ?hl ?_); (with_reducible show (_ : Nat) ≤ 1000); (exact Nat.le_of_ble_eq_true rfl))
    ))

inductive Opd where
  | const (v : Int)
  | part (mv : Bool) (l : Int) (q : PV)
  | whole (mv : Bool) (l : Int)
def wd : Bool → PV
  | true => .str "move"
  | false => .str "copy"
def Opd.pv : Opd → PV
  | .const v => .tup [.str "const", .tup [.str "int", .str "u8"], .int v]
  | .part mv l q => .tup [wd mv, .tup [.int l, .tup [q]]]
  | .whole mv l => .tup [wd mv, .tup [.int l, .tup []]]
def Opd.fit : Opd → Prop
  | .part _ _ q => Pl 2 q
  | _ => True
/-- what read_operand answers -/
def rd (m : List (Int × Sc)) : Opd → PV
  | .whole mv l => match dget m l with
    | some c => .tup [.str "copy", .tup [scPV c, .tup []]]
    | none => Opd.pv (.whole mv l)
  | o => o.pv

section
variable {C : Ctx} {σ : Store} {P : PV → Store → Prop}
theorem c_read_operand {n : Nat} (ok : C.Ok) (hf : At C 8 "read_operand") {o : Opd} {m : List (Int × Sc)} (ho : o.fit) (h : P (rd m o) σ) : Fn C "read_operand" (n + 1) [o.pv, .dct m] σ P := by
  refine Fn_intro ok hf ["operand", "known"] (fun pm code doc vs e => ?_) rfl (by decide) (by kernel_rfl!) fun X hm => ?_
  · obtain ⟨a, b, rfl⟩ := len2 e
    with_unfolding_all rfl
  · refine s_cons ?_
    cases o with
    | const v =>
      simp only [Opd.pv]
      repeat (walk_at "m")
      exact h
    | part mv l q =>
      have hq : Pl 2 q := ho
      cases mv <;> simp only [Opd.pv, wd] <;> (repeat (walk_at "m")) <;> exact h
    | whole mv l =>
      simp only [rd] at h
      cases hg : dget m l with
      | none =>
        rw [hg] at h
        cases mv <;> simp only [Opd.pv, wd] at h ⊢ <;> (repeat (walk_at "m")) <;> rw [hg] <;> (repeat (walk_at "m")) <;> exact h
      | some c =>
        rw [hg] at h
        cases mv <;> simp only [Opd.pv, wd] at h ⊢ <;> (repeat (walk_at "m")) <;> rw [hg] <;> (repeat (walk_at "m")) <;> (refine t_dct hg ?_) <;> (repeat (walk_at "m")) <;> exact h
end

inductive Rv (α : Type) where
  | use (a : α)
  | box (a : α)
  | bin (a b : α)
  | chk (a b : α)
  | un (a : α)
  | cast (a : α)
  | tup (as : List α)
  | arr (as : List α)
  | adt (as : List α)
  | lend (p : PV)
  | disc (p : PV)
def Rv.pv {α : Type} (f : α → PV) : Rv α → PV
  | .use a => .tup [.str "use", f a]
  | .box a => .tup [.str "box", f a]
  | .bin a b => .tup [.str "binary", .str "+", f a, f b]
  | .chk a b => .tup [.str "checked", .str "-", f a, f b]
  | .un a => .tup [.str "unary", .str "-", f a]
  | .cast a => .tup [.str "cast", f a, .tup [.str "bool"]]
  | .tup as => .tup [.str "tuple", .tup (as.map f)]
  | .arr as => .tup [.str "array", .tup (as.map f)]
  | .adt as => .tup [.str "adt", .tup [.str "adt", .str "S", .tup [], .tup []], .int 1, .tup (as.map f)]
  | .lend p => .tup [.str "ref", .none, .str "shared", p]
  | .disc p => .tup [.str "discriminant", p]
def Rv.ops {α : Type} : Rv α → List α
  | .use a => [a]
  | .box a => [a]
  | .bin a b => [a, b]
  | .chk a b => [a, b]
  | .un a => [a]
  | .cast a => [a]
  | .tup as => as
  | .arr as => as
  | .adt as => as
  | .lend _ => []
  | .disc _ => []

section
variable {C : Ctx} {σ : Store} {P : PV → Store → Prop}
theorem c_read_operands {n : Nat} (ok : C.Ok) (h8 : At C 8 "read_operand") (hf : At C 9 "read_operands") {os : List Opd} {m : List (Int × Sc)} {q : PV} (hq : q = .lst (os.map Opd.pv) ∨ q = .tup (os.map Opd.pv)) (hl : os.length ≤ 1000) (ho : ∀ o ∈ os, o.fit) (h : P (.tup (os.map (rd m))) σ) :
    Fn C "read_operands" (n + 2) [q, .dct m] σ P := by
  refine Fn_intro ok hf ["operands", "known"] (fun pm code doc vs e => ?_) rfl (by decide) (by kernel_rfl!) fun X hm => ?_
  · obtain ⟨a, b, rfl⟩ := len2 e
    with_unfolding_all rfl
  · refine s_cons (x_ret (e_callT boot_tuple (by decide) (es_cons ?_) (by kernel_rfl!)))
    have hi : itemsOf q = some (os.map Opd.pv) := by rcases hq with rfl | rfl <;> rfl
    refine e_comp (e_local (by kernel_rfl!) rfl ⟨_, hi, by simpa using hl, fun Y => ?_⟩)
    refine compL_map (g := rd m) (fun o hmem P hP => ?_) ?_
    · refine e_call h8 (by kernel_rfl!) ?_
      repeat (walk_at "m")
      exact c_read_operand ok h8 (ho o hmem) hP
    · refine es_nil ?_
      exact f_tupL (by simpa using hl) h
theorem c_operands_of {n : Nat} (ok : C.Ok) (hf : At C 3 "operands_of") {α : Type} {f : α → PV} {r : Rv α} (hl : r.ops.length ≤ 1000) (h : P (.lst (r.ops.map f)) σ) :
    Fn C "operands_of" (n + 1) [r.pv f] σ P := by
  refine Fn_intro ok hf ["rvalue"] (fun pm code doc vs e => ?_) rfl (by decide) (by kernel_rfl!) fun X hm => ?_
  · obtain ⟨a, rfl⟩ := len1 e
    with_unfolding_all rfl
  · refine s_cons ?_
    cases r with
    | tup as =>
      simp only [Rv.pv] at h ⊢
      repeat (walk_at "m")
      refine e_callT boot_list (by decide) ?_ (by kernel_rfl!)
      repeat (walk_at "m")
      exact f_listT (by simpa [Rv.ops] using hl) h
    | arr as =>
      simp only [Rv.pv] at h ⊢
      repeat (walk_at "m")
      refine e_callT boot_list (by decide) ?_ (by kernel_rfl!)
      repeat (walk_at "m")
      exact f_listT (by simpa [Rv.ops] using hl) h
    | adt as =>
      simp only [Rv.pv] at h ⊢
      repeat (walk_at "m")
      refine e_callT boot_list (by decide) ?_ (by kernel_rfl!)
      repeat (walk_at "m")
      exact f_listT (by simpa [Rv.ops] using hl) h
    | _ =>
      simp only [Rv.pv] at h ⊢
      repeat (walk_at "m")
      exact h
theorem c_with_operands {n : Nat} (ok : C.Ok) (hf : At C 4 "with_operands") {α : Type} {f g : α → PV} {r : Rv α} (h : P (r.pv g) σ) :
    Fn C "with_operands" (n + 1) [r.pv f, .tup (r.ops.map g)] σ P := by
  refine Fn_intro ok hf ["rvalue", "operands"] (fun pm code doc vs e => ?_) rfl (by decide) (by kernel_rfl!) fun X hm => ?_
  · obtain ⟨a, b, rfl⟩ := len2 e
    with_unfolding_all rfl
  · refine s_cons ?_
    cases r with
    | tup as =>
      simp only [Rv.pv, Rv.ops] at h ⊢
      repeat (walk_at "m")
      refine e_callT boot_tuple (by decide) ?_ (by kernel_rfl!)
      repeat (walk_at "m")
      refine f_tupT ?_
      repeat (walk_at "m")
      exact h
    | arr as =>
      simp only [Rv.pv, Rv.ops] at h ⊢
      repeat (walk_at "m")
      refine e_callT boot_tuple (by decide) ?_ (by kernel_rfl!)
      repeat (walk_at "m")
      refine f_tupT ?_
      repeat (walk_at "m")
      exact h
    | adt as =>
      simp only [Rv.pv, Rv.ops] at h ⊢
      repeat (walk_at "m")
      refine ⟨_, rfl, Nat.le_of_ble_eq_true rfl, Nat.le_of_ble_eq_true rfl, ?_⟩
      repeat (walk_at "m")
      refine e_callT boot_tuple (by decide) ?_ (by kernel_rfl!)
      repeat (walk_at "m")
      refine f_tupT ?_
      repeat (walk_at "m")
      exact o_addT (Nat.le_of_ble_eq_true rfl) (by simp) (by simp) h
    | _ =>
      simp only [Rv.pv, Rv.ops, List.map_cons, List.map_nil] at h ⊢
      repeat (walk_at "m")
      exact h
theorem c_read_rvalue {n : Nat} (ok : C.Ok) (h3 : At C 3 "operands_of") (h4 : At C 4 "with_operands") (h8 : At C 8 "read_operand") (h9 : At C 9 "read_operands") (hf : At C 10 "read_rvalue") {r : Rv Opd} {m : List (Int × Sc)} (hl : r.ops.length ≤ 1000) (ho : ∀ o ∈ r.ops, o.fit) (h : P (r.pv (rd m)) σ) :
    Fn C "read_rvalue" (n + 3) [r.pv Opd.pv, .dct m] σ P := by
  refine Fn_intro ok hf ["rvalue", "known"] (fun pm code doc vs e => ?_) rfl (by decide) (by kernel_rfl!) fun X hm => ?_
  · obtain ⟨a, b, rfl⟩ := len2 e
    with_unfolding_all rfl
  · refine s_cons (x_ret (e_call h4 (by kernel_rfl!) ?_))
    repeat (walk_at "m")
    refine e_call h9 (by kernel_rfl!) ?_
    repeat (walk_at "m")
    refine e_call h3 (by kernel_rfl!) ?_
    repeat (walk_at "m")
    refine c_operands_of ok h3 hl ?_
    repeat (walk_at "m")
    refine c_read_operands ok h8 h9 (.inl rfl) hl ho ?_
    repeat (walk_at "m")
    exact c_with_operands ok h4 h
end

inductive St where
  | asg (p : PV) (r : Rv Opd)
  | prt (o : Opd)
  | live (p : PV)
  | dead (p : PV)
  | nop
def St.pv (f : Opd → PV) : St → PV
  | .asg p r => .tup [.str "assign", p, r.pv f]
  | .prt o => .tup [.str "print", f o]
  | .live p => .tup [.str "live", p]
  | .dead p => .tup [.str "dead", p]
  | .nop => .tup [.str "nop"]
def St.fit : St → Prop
  | .asg _ r => r.ops.length ≤ 1000 ∧ ∀ o ∈ r.ops, o.fit
  | .prt o => o.fit
  | _ => True
inductive Tm where
  | sw (o : Opd)
  | asr (o : Opd)
  | call (x : Str) (as : List Opd) (p q : PV)
  | goto
  | ret
  | drop (p : PV)
  | panic
  | unre
def Tm.pv (f : Opd → PV) : Tm → PV
  | .sw o => .tup [.str "switch", f o, .tup [.tup [.int 3, .int 1], .tup [.int 4, .int 2]], .none]
  | .asr o => .tup [.str "assert", f o, .bool true, .str "no", .int 2]
  | .call x as p q => .tup [.str "call", .tup [.str "fn", .str x, .tup []], .tup (as.map f), p, q]
  | .goto => .tup [.str "goto", .int 1]
  | .ret => .tup [.str "return"]
  | .drop p => .tup [.str "drop", p, .int 2]
  | .panic => .tup [.str "panic", .str "so"]
  | .unre => .tup [.str "unreachable"]
def Tm.fit : Tm → Prop
  | .sw o => o.fit
  | .asr o => o.fit
  | .call _ as _ _ => as.length ≤ 1000 ∧ ∀ o ∈ as, o.fit
  | _ => True

section
variable {C : Ctx} {σ : Store} {P : PV → Store → Prop}
theorem c_read_statement {n : Nat} (ok : C.Ok) (h3 : At C 3 "operands_of") (h4 : At C 4 "with_operands") (h8 : At C 8 "read_operand") (h9 : At C 9 "read_operands") (h10 : At C 10 "read_rvalue") (hf : At C 11 "read_statement") {r : St} {m : List (Int × Sc)} (ho : r.fit) (h : P (r.pv (rd m)) σ) :
    Fn C "read_statement" (n + 4) [r.pv Opd.pv, .dct m] σ P := by
  refine Fn_intro ok hf ["statement", "known"] (fun pm code doc vs e => ?_) rfl (by decide) (by kernel_rfl!) fun X hm => ?_
  · obtain ⟨a, b, rfl⟩ := len2 e
    with_unfolding_all rfl
  · refine s_cons ?_
    cases r with
    | asg p r =>
      simp only [St.pv] at h ⊢
      repeat (walk_at "m")
      refine e_call h10 (by kernel_rfl!) ?_
      repeat (walk_at "m")
      refine c_read_rvalue ok h3 h4 h8 h9 h10 ho.1 ho.2 ?_
      repeat (walk_at "m")
      exact h
    | prt o =>
      simp only [St.pv] at h ⊢
      repeat (walk_at "m")
      refine e_call h8 (by kernel_rfl!) ?_
      repeat (walk_at "m")
      refine c_read_operand ok h8 ho ?_
      repeat (walk_at "m")
      exact h
    | _ =>
      simp only [St.pv] at h ⊢
      repeat (walk_at "m")
      exact h
theorem c_read_terminator {n : Nat} (ok : C.Ok) (h8 : At C 8 "read_operand") (h9 : At C 9 "read_operands") (hf : At C 12 "read_terminator") {r : Tm} {m : List (Int × Sc)} (ho : r.fit) (h : P (r.pv (rd m)) σ) :
    Fn C "read_terminator" (n + 3) [r.pv Opd.pv, .dct m] σ P := by
  refine Fn_intro ok hf ["terminator", "known"] (fun pm code doc vs e => ?_) rfl (by decide) (by kernel_rfl!) fun X hm => ?_
  · obtain ⟨a, b, rfl⟩ := len2 e
    with_unfolding_all rfl
  · refine s_cons ?_
    cases r with
    | sw o =>
      simp only [Tm.pv] at h ⊢
      repeat (walk_at "m")
      refine e_call h8 (by kernel_rfl!) ?_
      repeat (walk_at "m")
      refine c_read_operand ok h8 ho ?_
      repeat (walk_at "m")
      refine e_callT boot_tuple (by decide) ?_ (by kernel_rfl!)
      repeat (walk_at "m")
      refine ⟨_, rfl, Nat.le_of_ble_eq_true rfl, Nat.le_of_ble_eq_true rfl, Nat.le_of_ble_eq_true rfl, ?_⟩
      repeat (walk_at "m")
      refine f_tupT ?_
      exact o_addT (Nat.le_of_ble_eq_true rfl) (by simp) (by simp) h
    | asr o =>
      simp only [Tm.pv] at h ⊢
      repeat (walk_at "m")
      refine e_call h8 (by kernel_rfl!) ?_
      repeat (walk_at "m")
      refine c_read_operand ok h8 ho ?_
      repeat (walk_at "m")
      refine e_callT boot_tuple (by decide) ?_ (by kernel_rfl!)
      repeat (walk_at "m")
      refine ⟨_, rfl, Nat.le_of_ble_eq_true rfl, Nat.le_of_ble_eq_true rfl, Nat.le_of_ble_eq_true rfl, ?_⟩
      repeat (walk_at "m")
      refine f_tupT ?_
      exact o_addT (Nat.le_of_ble_eq_true rfl) (by simp) (by simp) h
    | call x as p q =>
      simp only [Tm.pv] at h ⊢
      repeat (walk_at "m")
      refine e_call h9 (by kernel_rfl!) ?_
      repeat (walk_at "m")
      refine c_read_operands ok h8 h9 (.inr rfl) ho.1 ho.2 ?_
      repeat (walk_at "m")
      refine e_callT boot_tuple (by decide) ?_ (by kernel_rfl!)
      repeat (walk_at "m")
      refine ⟨_, rfl, Nat.le_of_ble_eq_true rfl, Nat.le_of_ble_eq_true rfl, Nat.le_of_ble_eq_true rfl, ?_⟩
      repeat (walk_at "m")
      refine f_tupT ?_
      exact o_addT (Nat.le_of_ble_eq_true rfl) (by simp) (by simp) h
    | _ =>
      simp only [Tm.pv] at h ⊢
      repeat (walk_at "m")
      exact h
end

/-- a dict of ints -/
structure Wf (m : List (Int × Sc)) : Prop where
  nodup : (m.map (·.1)).Nodup
  vals : ∀ k c, (k, c) ∈ m → ∃ i, c = .int i
  few : m.length ≤ 50
theorem Wf.filter {m : List (Int × Sc)} (h : Wf m) (f : Int × Sc → Bool) : Wf (m.filter f) where
  nodup := h.nodup.sublist (List.filter_sublist.map _)
  vals := fun k c hm => h.vals k c (List.mem_filter.mp hm).1
  few := Nat.le_trans (List.length_filter_le ..) h.few
theorem Wf.get {m : List (Int × Sc)} (h : Wf m) {k : Int} {c : Sc} (hm : (k, c) ∈ m) : dget m k = some c := dget_mem h.nodup k c hm

def fgt (m : List (Int × Sc)) (l : Int) : List (Int × Sc) := m.filter fun kv => decide (kv.1 ≠ l) && decide (kv.2 ≠ .int l)

theorem upd_upd {σ : Store} {a : Addr} {o o' : PObj} : upd (upd σ a o) a o' = upd σ a o' := by
  funext b; unfold upd; split <;> rfl
theorem upd_at {σ : Store} {a : Addr} {o : PObj} : upd σ a o a = some o := by unfold upd; rw [if_pos rfl]
theorem Simple.upd {σ : Store} (h : Simple σ) {a : Addr} {m : List (Int × Sc)} : Simple (Mine.upd σ a (.dict m)) := fun b o e => by
  unfold Mine.upd at e
  split at e
  · cases e; trivial
  · exact h b o e

section
variable {C : Ctx} {n : Nat} {kt : List (Str × NameKind)} {X : Cx C n kt} {ρ ρ' : Loc} {σ σ' : Store} {P : PV → Store → Prop} {Qn : Loc → Store → Prop} {Qr : PV → Store → Prop}
theorem forL_pops {t : Expr} {body : List Stmt} {a : Addr} (hstep : ∀ (k : Int) (m : List (Int × Sc)) (ρ : Loc), get ρ "known" = some (.ref a) → (∃ c, dget m k = some c) → m.length ≤ 1000 →
      ∀ Q : Loc → Store → Prop, (∀ ρ', get ρ' "known" = some (.ref a) → Q ρ' (upd σ a (.dict (dwo m k)))) → AsW X t (.int k) ρ (upd σ a (.dict m)) fun ρ₁ σ₁ => WpS X body ρ₁ σ₁ Q Qr) :
    ∀ (ks : List Int) (m : List (Int × Sc)) (ρ : Loc), ks.Nodup → (∀ k ∈ ks, ∃ c, dget m k = some c) → m.length ≤ 1000 → get ρ "known" = some (.ref a) → (∀ ρ', Qn ρ' (upd σ a (.dict (m.filter fun kv => decide (kv.1 ∉ ks))))) →
      ForL X t body Qn Qr (ks.map PV.int) ρ (upd σ a (.dict m))
  | [], m, ρ, _, _, _, hρ, hQ => by
    have := hQ ρ
    rw [List.filter_eq_self.mpr (by simp)] at this
    exact this
  | k :: ks, m, ρ, hn, hk, hl, hρ, hQ => by
    refine hstep k m ρ hρ (hk k (List.mem_cons_self ..)) hl _ fun ρ' hρ' => ?_
    rw [List.nodup_cons] at hn
    refine forL_pops hstep ks (dwo m k) ρ' hn.2 (fun k' hk' => ?_) (Nat.le_trans (List.length_filter_le ..) hl) hρ' fun ρ'' => ?_
    · obtain ⟨c, hc⟩ := hk k' (List.mem_cons_of_mem _ hk')
      refine ⟨c, ?_⟩
      have hne : k' ≠ k := fun z => hn.1 (z ▸ hk')
      clear hQ hk hstep
      unfold dget dwo at *
      induction m with
      | nil => cases hc
      | cons kv m ih =>
        obtain ⟨k₀, c₀⟩ := kv
        rw [List.lookup_cons] at hc
        rw [List.filter_cons]
        by_cases z : k' = k₀
        · subst z
          simp only [beq_self_eq_true] at hc
          rw [if_pos (by simpa using hne), List.lookup_cons]
          simp only [beq_self_eq_true]; exact hc
        · have zb : (k' == k₀) = false := beq_eq_false_iff_ne.mpr z
          rw [zb] at hc
          have := ih (by simp only [List.length_cons] at hl; omega) hc
          split
          · rw [List.lookup_cons, zb]; exact this
          · exact this
    · have := hQ ρ''
      have e : (dwo m k).filter (fun kv => decide (kv.1 ∉ ks)) = m.filter fun kv => decide (kv.1 ∉ k :: ks) := by
        unfold dwo
        rw [List.filter_filter]
        refine List.filter_congr fun kv _ => ?_
        by_cases z : kv.1 = k <;> simp [z]
      rw [e]; exact this

theorem c_forget {n : Nat} (ok : C.Ok) (hf : At C 13 "forget") {a : Addr} {m : List (Int × Sc)} {l : Int} (hs : Simple σ) (ha : σ a = some (.dict m)) (hw : Wf m) (h : P .none (upd σ a (.dict (fgt m l)))) :
    Fn C "forget" (n + 1) [.ref a, .int l] σ P := by
  refine Fn_intro ok hf ["known", "local"] (fun pm code doc vs e => ?_) rfl (by decide) (by kernel_rfl!) fun X hm => ?_
  · obtain ⟨a, b, rfl⟩ := len2 e
    with_unfolding_all rfl
  · refine s_cons (x_expr (e_meth "dict" "dict.pop" ?_ PySem.F.plainAttrs_dict PySem.F.slot_dict_pop PySem.F.type_dict_pop))
    have hw' : Wf (dwo m l) := hw.filter _
    have hle : ∀ {m : List (Int × Sc)}, Wf m → m.length ≤ 1000 := fun h => Nat.le_trans h.few (by decide)
    refine e_cell (by kernel_rfl!) rfl ⟨a, _, rfl, ha, rfl, ?_⟩
    refine es_cons (e_cell (by kernel_rfl!) rfl ?_)
    repeat (walk_at "m")
    refine m_pop2 ha (hle hw) fun p hp => ⟨?_, ?_⟩
    · rcases hp with rfl | ⟨c, rfl⟩
      · trivial
      · cases c <;> trivial
    refine s_cons (x_for ?_)
    refine e_borrow (x := "known") (a := a) (kvs := dwo m l) rfl upd_at hs.upd ?_
    refine e_comp (e_cell (by kernel_rfl!) rfl ⟨_, rfl, by simpa using hle hw', fun Y => ?_⟩)
    refine compL_filt (f := fun kv : Int × Sc => PV.int kv.1) (g := fun kv => PV.int kv.1) (c := fun kv => decide (kv.2 = .int l)) (fun kv hkv P hP => ?_) (fun kv hkv hc P hP => ?_) ?_
    · obtain ⟨k, c⟩ := kv
      obtain ⟨i, rfl⟩ := hw'.vals k c hkv
      refine b_cmp (e_sub (e_cell (by kernel_rfl!) rfl (e_local (by kernel_rfl!) rfl (t_dct (hw'.get hkv) ?_))))
      repeat (walk_at "m")
      have e : pvEq (scPV (.int i)) (.int l) = decide ((Sc.int i) = .int l) := by
        show (i == l) = _
        simp [BEq.beq]
      rw [e]; exact hP
    · repeat (walk_at "m")
      exact hP
    · refine ⟨rfl, ((dwo m l).filter fun kv => decide (kv.2 = .int l)).map (·.1), by simp [Function.comp_def], _, rfl, ?_⟩
      rw [List.nil_append, show ((dwo m l).filter fun kv => decide (kv.2 = .int l)).map (fun kv => PV.int kv.1) = (((dwo m l).filter fun kv => decide (kv.2 = .int l)).map (·.1)).map PV.int by simp [Function.comp_def]]
      have hwk := hw'.filter fun kv => decide (kv.2 = .int l)
      refine forL_pops (fun k m' ρ hρ hc hl Q hQ => ?_) _ _ _ hwk.nodup (fun k hk => ?_) (hle hw') rfl (fun ρ' => s_nil ?_)
      · obtain ⟨c, hc⟩ := hc
        refine as_local' ?_ (by kernel_rfl!)
        have hρ' : get (((Str.ofString "other"), PV.int k) :: ρ) (Str.ofString "known") = some (.ref a) := by
          rw [get_cons, if_neg (by decide +kernel)]; exact hρ
        refine s_cons (x_expr (e_meth "dict" "dict.pop" ?_ PySem.F.plainAttrs_dict PySem.F.slot_dict_pop PySem.F.type_dict_pop))
        refine e_cell (by kernel_rfl!) hρ' ⟨a, _, rfl, upd_at, rfl, ?_⟩
        repeat (walk_at "m")
        refine m_pop1 upd_at hc hl ⟨?_, ?_⟩
        · cases c <;> trivial
        · refine s_nil ?_
          rw [upd_upd]
          exact hQ _ hρ'
      · obtain ⟨kv, hkv, rfl⟩ := List.mem_map.mp hk
        exact ⟨kv.2, hw'.get (List.mem_filter.mp hkv).1⟩
      · have e : (dwo m l).filter (fun kv => decide (kv.1 ∉ ((dwo m l).filter fun kv => decide (kv.2 = .int l)).map (·.1))) = fgt m l := by
          have e1 : fgt m l = (dwo m l).filter fun kv => decide (kv.2 ≠ .int l) := by
            unfold fgt dwo
            rw [List.filter_filter]
            refine List.filter_congr fun kv _ => ?_
            rw [Bool.and_comm]
          rw [e1]
          refine List.filter_congr fun kv hkv => ?_
          refine decide_eq_decide.mpr ⟨fun hni hv => hni (List.mem_map.mpr ⟨kv, List.mem_filter.mpr ⟨hkv, by simpa using hv⟩, rfl⟩), fun hv hi => ?_⟩
          obtain ⟨kv', hkv', he⟩ := List.mem_map.mp hi
          obtain ⟨h1, h2⟩ := List.mem_filter.mp hkv'
          have g1 := hw'.get (k := kv'.1) (c := kv'.2) h1
          have g2 := hw'.get (k := kv.1) (c := kv.2) hkv
          rw [he, g2] at g1
          have h3 : kv'.2 = .int l := by simpa using h2
          exact hv ((Option.some.inj g1).trans h3)
        rw [e]; exact h

def Opd.moved : Opd → Bool
  | .part true _ _ => true
  | .whole true _ => true
  | _ => false
def Opd.loc : Opd → Int
  | .const _ => 0
  | .part _ l _ => l
  | .whole _ l => l
def fgtAll (m : List (Int × Sc)) (os : List Opd) : List (Int × Sc) := os.foldl (fun m o => if o.moved then fgt m o.loc else m) m
theorem Wf.fgt {m : List (Int × Sc)} (h : Wf m) (l : Int) : Wf (Mine.fgt m l) := h.filter _

theorem forL_moved {t : Expr} {body : List Stmt} {a : Addr} (hstep : ∀ (o : Opd) (m : List (Int × Sc)) (ρ : Loc), get ρ "known" = some (.ref a) → o.fit → Wf m →
      ∀ Q : Loc → Store → Prop, (∀ ρ', get ρ' "known" = some (.ref a) → Q ρ' (upd σ a (.dict (if o.moved then fgt m o.loc else m)))) → AsW X t o.pv ρ (upd σ a (.dict m)) fun ρ₁ σ₁ => WpS X body ρ₁ σ₁ Q Qr) :
    ∀ (os : List Opd) (m : List (Int × Sc)) (ρ : Loc), (∀ o ∈ os, o.fit) → Wf m → get ρ "known" = some (.ref a) → (∀ ρ', Qn ρ' (upd σ a (.dict (fgtAll m os)))) →
      ForL X t body Qn Qr (os.map Opd.pv) ρ (upd σ a (.dict m))
  | [], m, ρ, _, _, _, hQ => hQ ρ
  | o :: os, m, ρ, ho, hw, hρ, hQ => by
    refine hstep o m ρ hρ (ho o (List.mem_cons_self ..)) hw _ fun ρ' hρ' => ?_
    exact forL_moved hstep os _ ρ' (fun o' h' => ho o' (List.mem_cons_of_mem _ h')) (by split <;> first | exact hw.fgt _ | exact hw) hρ' hQ
theorem c_forget_moved {n : Nat} (ok : C.Ok) (h13 : At C 13 "forget") (hf : At C 14 "forget_moved") {a : Addr} {m : List (Int × Sc)} {os : List Opd} (hs : Simple σ) (ha : σ a = some (.dict m)) (hw : Wf m) (ho : ∀ o ∈ os, o.fit) (h : P .none (upd σ a (.dict (fgtAll m os)))) :
    Fn C "forget_moved" (n + 2) [.lst (os.map Opd.pv), .ref a] σ P := by
  refine Fn_intro ok hf ["operands", "known"] (fun pm code doc vs e => ?_) rfl (by decide) (by kernel_rfl!) fun X hm => ?_
  · obtain ⟨a, b, rfl⟩ := len2 e
    with_unfolding_all rfl
  · refine s_cons (x_for (e_local (by kernel_rfl!) rfl ⟨_, rfl, ?_⟩))
    rw [← upd_same ha]
    refine forL_moved (fun o m ρ hρ ho hw Q hQ => ?_) os m _ ho hw rfl fun ρ' => s_nil h
    refine as_local' ?_ (by kernel_rfl!)
    have hρ' : get (((Str.ofString "operand"), o.pv) :: ρ) (Str.ofString "known") = some (.ref a) := by
      rw [get_cons, if_neg (by decide +kernel)]; exact hρ
    have key : ∀ (l : Int) (P' : PV → Store → Prop), P' .none (upd σ a (.dict (fgt m l))) → Fn C "forget" (n + 1) [.ref a, .int l] (upd σ a (.dict m)) P' := fun l P' hP => c_forget ok h13 hs.upd upd_at hw (by rw [upd_upd]; exact hP)
    refine s_cons ?_
    cases o with
    | const v =>
      simp only [Opd.pv] at hρ' ⊢
      repeat (walk_at "m")
      exact hQ _ hρ'
    | part mv l q =>
      cases mv <;> simp only [Opd.pv, wd] at hρ' ⊢ <;> repeat (walk_at "m")
      · exact hQ _ hρ'
      · refine x_expr (e_call h13 (by kernel_rfl!) ?_)
        repeat (walk_at "m")
        refine e_local (by kernel_rfl!) hρ' ?_
        repeat (walk_at "m")
        refine key l _ ⟨trivial, s_nil (s_nil (by exact hQ _ hρ'))⟩
    | whole mv l =>
      cases mv <;> simp only [Opd.pv, wd] at hρ' ⊢ <;> repeat (walk_at "m")
      · exact hQ _ hρ'
      · refine x_expr (e_call h13 (by kernel_rfl!) ?_)
        repeat (walk_at "m")
        refine e_local (by kernel_rfl!) hρ' ?_
        repeat (walk_at "m")
        refine key l _ ⟨trivial, s_nil (s_nil (by exact hQ _ hρ'))⟩
end

theorem list_no_keys : typeLookup (.type "list") (Str.ofString "keys") = pure none := by rw [typeLookup_type, builtinLookup_eq_fast]; kernel_rfl
theorem getAttrQ_miss_list {prog : Program} {w : World} {A : Around} {E : Value → Shared → Prop} {s : Shared} {a : Addr} {xs : Array Value} {k : Nat} {name : Str} {Q : Option Value → Shared → Prop}
    (hx : IsL s.heap a xs k) (hmiss : typeLookup (.type "list") name = pure none) (hname : (["__module__", "__name__", "__qualname__", "__doc__", "__annotations__"] : List Str).contains name = false) (hA : A.handled = none)
    (h : ∀ h' tk, (∀ b o, s.heap.get? b = some o → h'.get? b = some o) → Q none { s with heap := h', toks := tk }) (hsz : name.length + 100 ≤ sizeLine := by size_fits) :
    wpAny (model prog w) A (getAttr? (.ref a) name) Q E s := by
  obtain ⟨hp, g, d, tk, os⟩ := s
  have hT : ∀ tk', (⟨hp, g, d, tk', os⟩ : Shared).TypeIs (.ref a) "list" := fun _ => ⟨_, hx, rfl⟩
  have f1 := sub_AttributeError
  have f3 := F.slot_list_getattribute.lookup
  have f4 := F.slot_list_getattribute.bind (.ref a)
  have f5 := am_list_getattr_none
  unfold getAttr? getAttrBy? getAttrBy
  repeat (any_goals (first | assumption | exact hT _ | ((with_reducible show wpAny _ _ (call (Value.builtin "list.__getattribute__") _ _) _ _ _); refine call_meets F.slot_list_getattribute (hT _) am_entry_list_getattribute (F.args_list_getattribute_2 _ _) (meets_getattribute_miss_list a xs k _ name _ hmiss hname hsz) ⟨hx, hA, fun h' tk' e hx' => ?_⟩) | wp_step))
  obtain ⟨t', u', he⟩ := hx'.there
  show wpAny _ _ (getattributeRaised _ _ _ _ _ _ _) _ _ _
  unfold getattributeRaised
  repeat (any_goals (first | assumption | wp_step))
  all_goals exact h _ _ hx'.keeps

theorem plain_update_loop : plainId "dict.update.loop" = true := by decide +kernel
theorem entry_update_loop : entryFor table "dict.update.loop" = some Builtin.«dict.update.loop» := entryFor_of_tree (by kernel_rfl)

def pairPV (kv : Int × Sc) : PV := .tup [.int kv.1, scPV kv.2]
theorem stored_new {l : List (Int × Value)} {k : Int} {v : Value} (h : k ∉ l.map (·.1)) : stored l k v = l ++ [(k, v)] := by
  unfold stored
  rw [if_neg]
  intro z
  obtain ⟨kv, h1, h2⟩ := List.any_eq_true.mp z
  exact h (List.mem_map.mpr ⟨kv, h1, by simpa using h2⟩)
theorem ScVal.of_rv {C : Ctx} {h : Heap} {σ : Store} {π : Priv} {v : Value} {c : Sc} (r : RV C h σ π v (scPV c)) : ScVal v c := by
  cases c <;> cases r <;> first | exact ⟨_, rfl⟩ | rfl

section
variable {C : Ctx} {A : Around} {σ : Store} {π : Priv}
theorem dict_loop {R : Result → Shared → Prop} (hh : A.handled = none) {d I : Addr} (hd : π d) (hI : π I) (hdI : d ≠ I) : ∀ (kvs done : List (Int × Sc)) (s : Shared) (i : Int),
    ItR C s.heap σ π I (kvs.map pairPV) → DictR C s.heap d done → ((done ++ kvs).map (·.1)).Nodup → (done ++ kvs).length ≤ 1000 →
    (∀ h' tk, DictR C h' d (done ++ kvs) → (∀ b o, b ≠ d → b ≠ I → s.heap.get? b = some o → h'.get? b = some o) → R (.ok (.ret .none)) { s with heap := h', toks := tk }) →
    codeAny (model C.prog C.w) A (.builtin "dict.update.loop" ⟨[.ref d, .ref I, .int i 0, .none], []⟩) R s
  | [], done, s, i, it, hD, hn, hl, hR => by
    refine codeAny_builtin entry_update_loop ?_
    rw [Around.under_plainId plain_update_loop _]
    show wpAny _ A.in1 (pyNext (.ref I) >>= _) _ _ s
    refine wpAny_bind (it.step (A := A.in1) hh hI fun r h' tk st => ?_)
    obtain ⟨rfl, hx⟩ := st
    show wpAny _ _ (Builtin.Dict.addKeywords d [] >>= _) _ _ _
    refine wpAny_bind (wpAny_pure (wpAny_pure ?_))
    refine hR h' tk ?_ fun b o _ h2 e => hx b o h2 e
    rw [List.append_nil]
    exact hD.at fun o e => hx d o hdI e
  | kv :: kvs, done, s, i, it, hD, hn, hl, hR => by
    refine codeAny_builtin entry_update_loop ?_
    rw [Around.under_plainId plain_update_loop _]
    show wpAny _ A.in1 (pyNext (.ref I) >>= _) _ _ s
    refine wpAny_bind (it.step (A := A.in1) hh hI fun r h' tk st => ?_)
    obtain ⟨v, rfl, rv, it', hex, hx⟩ := st
    obtain ⟨k, c⟩ := kv
    cases rv with
    | @tup t vs n _ ht ft rs =>
      cases rs with
      | @cons v1 _ _ _ r1 rs =>
        cases rs with
        | @cons v2 _ _ _ r2 rs =>
          cases rs
          cases r1 with
          | int _ t1 =>
          have hv2 : ScVal v2 c := ScVal.of_rv r2
          refine wpAny_bind (wpAny_holding ?_)
          refine wpAny_bind (wpAny_tryCatch ?_)
          unfold Builtin.Dict.pairItems
          refine wpAny_bind (wpAny_typeOf (T := "tuple") ⟨_, ht, rfl⟩ ?_)
          rw [if_pos (by rfl)]
          unfold seqItems?
          refine wpAny_bind (wpAny_bind (wpAny_load ht (wpAny_pure (wpAny_pure ?_))))
          show wpAny _ _ (holding _ (dictSet d (.int k t1) v2)) _ _ _
          have hD' : DictR C h' d done := hD.at fun o e => hx d o hdI e
          obtain ⟨l, hl', hs, hne⟩ := hD'
          have hk : k ∉ l.map (·.1) := by
            rw [hs.keys']
            intro z
            rw [List.map_append, List.nodup_append] at hn
            exact hn.2.2 k z k (by simp) rfl
          refine wpAny_holding (wpAny_dictSet_pairs (s := { s with heap := h', toks := tk }) (intKind_is _ _ _ _) hl' (fun h2 hd2 hsb => ?_) (by rw [hs.refl_len]; simp only [List.length_append, List.length_cons] at hl; exact Nat.le_trans (show done.length ≤ 1000 by omega) (by decide)))
          refine wpAny_pure ⟨plainId_quiet plain_update_loop _, ?_⟩
          rw [stored_new hk] at hd2
          have hsc : ScAll (l ++ [(k, v2)]) (done ++ [(k, c)]) := hs.append (.cons hv2 .nil)
          have e : done ++ [(k, c)] ++ kvs = done ++ (k, c) :: kvs := by simp
          have hk2 : ∀ b o, b ≠ d → h'.get? b = some o → h2.get? b = some o := fun b o z e => (hsb.2 b z).trans e
          refine dict_loop hh hd hI hdI kvs (done ++ [(k, c)]) { s with heap := h2, toks := tk + 1 } (i + 1) (it'.mono (fun o e => hk2 I o (Ne.symm hdI) e) fun b o e f => ⟨hk2 b o (fun z => f.2 (z ▸ hd)) e, f⟩) ⟨_, hd2, hsc, hne⟩ (by rw [e]; exact hn) (by rw [e]; exact hl) fun h3 tk3 hd3 hk3 => ?_
          rw [e] at hd3
          exact hR h3 tk3 hd3 fun b o z1 z2 e => hk3 b o z1 z2 (hk2 b o z1 (hx b o z2 e))
end

section
variable {C : Ctx} {n : Nat} {kt : List (Str × NameKind)} {X : Cx C n kt} {ρ ρ' : Loc} {σ σ' : Store} {π π' : Priv} {s s' : Shared} {h h' : Heap} {P P' : PV → Store → Prop} {Qn : Loc → Store → Prop} {Qr : PV → Store → Prop}
theorem f_dictPairs {m : List (Int × Sc)} (hw : Wf m) (hP : P (.dct m) σ) : OpN X (fun vs => call (.type "dict") vs) [.lst (m.map pairPV)] ρ σ P := fun s π vs i r => by
  cases r with
  | cons r1 r =>
    cases r
    have r1' := r1
    cases r1 with
    | @lst a us k _ ha f ra =>
      refine callType_codes (Q₁ := fun obj s₁ => obj = .ref s.heap.objs.size ∧ s₁ = { s with heap := s.heap.push { cls := .type "dict", data := .dict #[] } }) F.kt_called_dict (F.kt_typeCall_dict_1 _) F.entry_dict_init (kt_code_dict_new _ ⟨rfl, rfl⟩) ?_
      rintro obj s₁ ⟨rfl, rfl⟩
      have hf := get?_size s.heap
      have hnew : (s.heap.push { cls := .type "dict", data := .dict #[] }).DictOf (intKind C.prog C.w) s.heap.objs.size [] := Heap.DictOf.new s.heap
      refine ⟨hnew.typeIs, F.args_dict_init_2 _ _, ?_⟩
      unfold Builtin.«dict.__init__»
      refine wpAny_bind ?_
      unfold Builtin.Dict.selfAndRest
      refine wpAny_bind (wpAny_notOrdered_dict hnew.typeIs ?_)
      show wpAny _ _ (pure (s.heap.objs.size, [Value.ref a])) _ _ _
      refine wpAny_pure ?_
      show wpAny _ _ (Builtin.Dict.updateFrom "dict.__init__" s.heap.objs.size (.ref a) [] .none) _ _ _
      unfold Builtin.Dict.updateFrom
      have ha1 := Heap.get?_push_of_some { cls := .type "dict", data := .dict #[] } ha
      refine wpAny_bind (wpAny_typeOf (T := "list") ⟨_, ha1, rfl⟩ ?_)
      rw [if_pos (by rfl)]
      have hB : BaseS C σ (fun b => π b ∨ b = s.heap.objs.size) (s.heap.push { cls := .type "dict", data := .dict #[] }) := i.base.newPriv hf (pushed _) ⟨_, Heap.get?_push_size _ rfl⟩
      refine wpAny_bind (getAttrQ_miss_list (A := X.A.in1.in1) ha1 list_no_keys (by decide +kernel) X.lv.1 (fun h₂ tk hk₂ => ?_))
      have hr2 : ∀ b o, s.heap.get? b = some o → Free σ π b → h₂.get? b = some o ∧ Free σ (fun b => π b ∨ b = s.heap.objs.size) b := fun b o e f => ⟨hk₂ b o (pushed _ b o e), f.1, fun z => z.elim f.2 fun w => by subst w; rw [hf] at e; cases e⟩
      have B₂ := hB.grow hk₂
      simp only [Option.isNone_none, if_true]
      refine wpAny_bind (wpAny_rule ?_)
      refine wpAny_bind (iter_start (s := { s with heap := h₂, toks := tk }) (r1'.mono hr2) rfl B₂ fun h₃ hf₃ hk₃ hex₃ hit => ?_)
      refine wpAny_pure ⟨plainId_quiet plain_update_loop _, ?_⟩
      generalize hII : h₂.objs.size = I at *
      have hd2 : h₂.get? s.heap.objs.size = some { cls := .type "dict", data := .dict #[] } := hk₂ _ _ (Heap.get?_push_size _ rfl)
      have hdI : s.heap.objs.size ≠ I := fun z => by
        have : h₂.get? I = none := by rw [← hII]; exact get?_size h₂
        rw [← z, hd2] at this; cases this
      have hD0 : DictR C h₃ s.heap.objs.size [] := by
        have := newDict0 X.ok i.base
        exact (this.at fun o e => hk₂ _ o e).at fun o e => hk₃ _ o e
      refine dict_loop (A := X.A.in1) (π := fun b => (π b ∨ b = s.heap.objs.size) ∨ b = I) X.lv.1 (.inl (.inr rfl)) (.inr rfl) hdI m [] { s with heap := h₃, toks := tk } 0 hit hD0 (by simpa using hw.nodup) (Nat.le_trans (by simpa using hw.few) (by decide)) fun h₄ tk₄ hd₄ hk₄ => ?_
      refine ⟨rfl, ?_⟩
      have hkk : ∀ b o, s.heap.get? b = some o → h₄.get? b = some o := fun b o e => by
        have e2 := hk₂ b o (pushed _ b o e)
        refine hk₄ b o (fun z => by subst z; rw [hf] at e; cases e) (fun z => ?_) (hk₃ b o e2)
        have : h₂.get? I = none := by rw [← hII]; exact get?_size h₂
        rw [z, this] at e2; cases e2
      exact ⟨.dct m, σ, π, .dct (by simpa using hd₄) ⟨i.base.freshσ hf, i.base.freshπ hf⟩, i.grow hkk, Adv.grow hkk, ⟨rfl, rfl, rfl⟩, hP⟩
end

/-- the source of draws -/
def Src (σ : Store) (S : Addr) : Prop := ∃ a b : Int, σ S = some (.list [.int a, .int b])
structure To (S : Addr) (σ σ' : Store) : Prop where
  src : Src σ' S
  rest : ∀ x, x ≠ S → σ' x = σ x
theorem To.refl {S : Addr} {σ : Store} (h : Src σ S) : To S σ σ := ⟨h, fun _ _ => rfl⟩
theorem To.trans {S : Addr} {σ σ' σ'' : Store} (h : To S σ σ') (k : To S σ' σ'') : To S σ σ'' := ⟨k.src, fun x hx => (k.rest x hx).trans (h.rest x hx)⟩
theorem To.upd {S : Addr} {σ : Store} (a b : Int) : To S σ (upd σ S (.list [.int a, .int b])) := ⟨⟨a, b, upd_at⟩, fun x hx => by unfold Mine.upd; rw [if_neg hx]⟩
theorem fmod_range {a b : Int} (hb : 0 < b) : 0 ≤ a.fmod b ∧ a.fmod b < b := ⟨Int.fmod_nonneg_of_pos a hb, Int.fmod_lt_of_pos a hb⟩
theorem bits64 {a : Int} (h0 : 0 ≤ a) (h : a < 4294967296) : Builtin.Int.intBits a ≤ 64 := intBits_le_64 (by omega) (by omega)

section
variable {C : Ctx} {σ : Store} {P : PV → Store → Prop}
theorem c_take {n : Nat} (ok : C.Ok) (hf : At C 17 "_law_take") {S : Addr} {t : Int} (hs : Src σ S) (ht : 0 < t) (ht' : t < 1073741824) (h : ∀ d σ', To S σ σ' → 0 ≤ d → d < t → P (.int d) σ') :
    Fn C "_law_take" (n + 1) [.ref S, .int t] σ P := by
  refine Fn_intro ok hf ["source", "top"] (fun pm code doc vs e => ?_) rfl (by decide) (by kernel_rfl!) fun X hm => ?_
  · obtain ⟨a, b, rfl⟩ := len2 e
    with_unfolding_all rfl
  · obtain ⟨a, b, ha⟩ := hs
    have hne : t ≠ 0 := by omega
    have hsm : t.natAbs < 1073741824 := by omega
    refine s_cons (x_if (b_cmp (e_sub ?_)))
    repeat (walk_at "m")
    refine t_ref ha (by decide) rfl (Nat.le_of_ble_eq_true rfl) ?_
    repeat (walk_at "m")
    refine o_gt ?_
    repeat (walk_at "m")
    refine ⟨fun hc => ?_, fun hc => ?_⟩
    · repeat (walk_at "m")
      refine t_ref ha (by decide) rfl (Nat.le_of_ble_eq_true rfl) ?_
      repeat (walk_at "m")
      refine o_mod hne ?_
      repeat (walk_at "m")
      refine t_ref ha (by decide) rfl (Nat.le_of_ble_eq_true rfl) ?_
      repeat (walk_at "m")
      refine o_div hne hsm ?_
      refine as_sub ?_
      repeat (walk_at "m")
      refine sw_list ha (by decide) (Nat.le_of_ble_eq_true rfl) (Nat.le_of_ble_eq_true rfl) ?_
      repeat (walk_at "m")
      exact h _ _ (To.upd _ _) (fmod_range ht).1 (fmod_range ht).2
    · repeat (walk_at "m")
      refine t_ref ha (by decide) rfl (Nat.le_of_ble_eq_true rfl) ?_
      repeat (walk_at "m")
      refine o_mul (IntMulOk.of_right (bits64 (by decide) (by decide))) ?_
      repeat (walk_at "m")
      refine o_add ?_
      repeat (walk_at "m")
      refine o_mod (by decide) ?_
      refine as_sub ?_
      repeat (walk_at "m")
      have r1 := fmod_range (a := b * 39373 + 7) (b := 2147483647) (by decide)
      refine sw_list ha (by decide) (Nat.le_of_ble_eq_true rfl) (Nat.le_of_ble_eq_true rfl) ?_
      repeat (walk_at "m")
      refine t_ref (ps := [.int a, .int ((b * 39373 + 7).fmod 2147483647)]) upd_at (by decide) rfl (Nat.le_of_ble_eq_true rfl) ?_
      repeat (walk_at "m")
      refine t_ref (ps := [.int a, .int ((b * 39373 + 7).fmod 2147483647)]) upd_at (by decide) rfl (Nat.le_of_ble_eq_true rfl) ?_
      refine o_mul (IntMulOk.of_left (bits64 r1.1 (by have := r1.2; omega))) ?_
      repeat (walk_at "m")
      refine o_mod (by decide) ?_
      repeat (walk_at "m")
      refine o_div (by decide) (by decide) ?_
      repeat (walk_at "m")
      refine o_mod hne ?_
      exact h _ _ (To.upd _ _) (fmod_range ht).1 (fmod_range ht).2
theorem c_one {n : Nat} (ok : C.Ok) (h17 : At C 17 "_law_take") (hf : At C 18 "_law_one") {S : Addr} {ps : List PV} (hs : Src σ S) (h0 : ps ≠ []) (hl : ps.length ≤ 1000) (h : ∀ q ∈ ps, ∀ σ', To S σ σ' → P q σ') :
    Fn C "_law_one" (n + 2) [.ref S, .lst ps] σ P := by
  refine Fn_intro ok hf ["source", "things"] (fun pm code doc vs e => ?_) rfl (by decide) (by kernel_rfl!) fun X hm => ?_
  · obtain ⟨a, b, rfl⟩ := len2 e
    with_unfolding_all rfl
  · have hpos : 0 < ps.length := List.length_pos_iff.mpr h0
    refine s_cons (x_ret (e_sub ?_))
    repeat (walk_at "m")
    refine e_call h17 (by kernel_rfl!) ?_
    repeat (walk_at "m")
    refine e_callB PySem.boot_len (by decide) ?_ (by kernel_rfl!)
    repeat (walk_at "m")
    refine f_lenL hl ?_
    repeat (walk_at "m")
    refine c_take ok h17 hs (by omega) (by omega) fun d σ' hto h1 h2 => ?_
    have hd : d.toNat < ps.length := by omega
    exact t_lst h1 (List.getElem?_eq_getElem hd) hl (h _ (List.getElem_mem hd) _ hto)
theorem c_u8 {n : Nat} (ok : C.Ok) (hf : At C 19 "_law_u8") (h : P (.tup [.str "int", .str "u8"]) σ) : Fn C "_law_u8" (n + 1) [] σ P := by
  refine Fn_intro ok hf [] (fun pm code doc vs e => ?_) rfl (by decide) (by kernel_rfl!) fun X hm => ?_
  · obtain rfl := len0 e
    with_unfolding_all rfl
  · refine s_cons ?_
    repeat (walk_at "m")
    exact h
theorem c_twin {n : Nat} (ok : C.Ok) (h17 : At C 17 "_law_take") (h18 : At C 18 "_law_one") (h19 : At C 19 "_law_u8") (hf : At C 20 "_law_twin") {S : Addr} {m : List (Int × Sc)} (hs : Src σ S) (h : ∀ o σ', To S σ σ' → o.fit → P (.tup [o.pv, rd m o]) σ') :
    Fn C "_law_twin" (n + 3) [.ref S, .dct m] σ P := by
  refine Fn_intro ok hf ["source", "known"] (fun pm code doc vs e => ?_) rfl (by decide) (by kernel_rfl!) fun X hm => ?_
  · obtain ⟨a, b, rfl⟩ := len2 e
    with_unfolding_all rfl
  · refine s_cons (x_assign_sw (a := "way") (b := "local") (e_tuple (es_cons (e_call h17 (by kernel_rfl!) ?_))))
    repeat (walk_at "m")
    refine c_take ok h17 hs (by decide) (by decide) fun w σ₁ t1 w0 w5 => ?_
    refine es_cons (e_call h17 (by kernel_rfl!) ?_)
    repeat (walk_at "m")
    refine c_take ok h17 t1.src (by decide) (by decide) fun l σ₂ t2 l0 l6 => ?_
    repeat (walk_at "m")
    refine ⟨_, _, rfl, ?_⟩
    repeat (walk_at "m")
    refine ⟨fun hc => ?_, fun hc => ?_⟩
    · repeat (walk_at "m")
      refine e_call h19 (by kernel_rfl!) ?_
      repeat (walk_at "m")
      refine c_u8 ok h19 ?_
      refine es_cons (e_call h17 (by kernel_rfl!) ?_)
      repeat (walk_at "m")
      refine c_take ok h17 (t1.trans t2).src (by decide) (by decide) fun v σ₃ t3 v0 v6 => ?_
      repeat (walk_at "m")
      exact h (.const v) _ ((t1.trans t2).trans t3) trivial
    · repeat (walk_at "m")
      refine e_call h18 (by kernel_rfl!) ?_
      repeat (walk_at "m")
      refine c_one ok h17 h18 t2.src (by simp) (Nat.le_of_ble_eq_true rfl) fun q hq σ₃ t3 => ?_
      obtain ⟨mv, rfl⟩ : ∃ mv, q = wd mv := by
        simp only [List.mem_cons, List.not_mem_nil, or_false] at hq
        rcases hq with rfl | rfl
        · exact ⟨false, rfl⟩
        · exact ⟨true, rfl⟩
      repeat (walk_at "m")
      refine ⟨fun hc => ?_, fun hc => ?_⟩
      · repeat (walk_at "m")
        refine e_call h18 (by kernel_rfl!) ?_
        repeat (walk_at "m")
        refine c_one ok h17 h18 t3.src (by simp) (Nat.le_of_ble_eq_true rfl) fun q hq σ₄ t4 => ?_
        have hp : Pl 2 q := by
          simp only [List.mem_cons, List.not_mem_nil, or_false] at hq
          rcases hq with rfl | rfl | rfl <;> walk_at "pl"
        repeat (walk_at "m")
        exact h (.part mv l q) _ (((t1.trans t2).trans t3).trans t4) hp
      · repeat (walk_at "m")
        have hz := h (.whole mv l) _ ((t1.trans t2).trans t3) trivial
        simp only [rd] at hz
        refine ⟨fun hc => ?_, fun hc => ?_⟩
        · cases hg : dget m l with
          | none => rw [hg] at hc; cases hc
          | some c =>
            rw [hg] at hz
            repeat (walk_at "m")
            refine t_dct hg ?_
            repeat (walk_at "m")
            exact hz
        · cases hg : dget m l with
          | some c => rw [hg] at hc; cases hc
          | none =>
            rw [hg] at hz
            repeat (walk_at "m")
            exact hz
end

def rvs {α : Type} (a b c d e : α) (place : PV) : List (Rv α) := [.use a, .box b, .bin c d, .chk e a, .un b, .cast c, .tup [d, e], .tup [], .arr [a, a, b], .adt [c, e], .lend place, .disc place]
def sts (o : Opd) (r : Rv Opd) (l q : PV) : List St := [.asg (.tup [l, q]) r, .prt o, .live l, .dead l, .nop]
def tms (a b c d : Opd) (place : PV) : List Tm := [.sw a, .asr b, .call "f" [c, d] place (.int 1), .call "g" [] place .none, .goto, .ret, .drop place, .panic, .unre]

section
variable {C : Ctx} {σ : Store} {P : PV → Store → Prop}
theorem c_rvalues {n : Nat} (ok : C.Ok) (hf : At C 21 "_law_rvalues") {α : Type} {f : α → PV} {a b c d e : α} {place : PV} (h : P (.lst ((rvs a b c d e place).map (Rv.pv f))) σ) :
    Fn C "_law_rvalues" (n + 1) [.lst [f a, f b, f c, f d, f e], place] σ P := by
  refine Fn_intro ok hf ["ops", "place"] (fun pm code doc vs e => ?_) rfl (by decide) (by kernel_rfl!) fun X hm => ?_
  · obtain ⟨a, b, rfl⟩ := len2 e
    with_unfolding_all rfl
  · refine s_cons ?_
    repeat (walk_at "m")
    refine o_addL (Nat.le_of_ble_eq_true rfl) ?_
    repeat (walk_at "m")
    refine o_addL (Nat.le_of_ble_eq_true rfl) ?_
    repeat (walk_at "m")
    refine o_addL (Nat.le_of_ble_eq_true rfl) ?_
    exact h
theorem c_statements {n : Nat} (ok : C.Ok) (hf : At C 22 "_law_statements") {f : Opd → PV} {r : Rv Opd} {a b c d e : Opd} {l q : PV} (h : P (.lst ((sts a r l q).map (St.pv f))) σ) :
    Fn C "_law_statements" (n + 1) [.lst [f a, f b, f c, f d, f e], r.pv f, .tup [l, q]] σ P := by
  refine Fn_intro ok hf ["ops", "rvalue", "place"] (fun pm code doc vs e => ?_) rfl (by decide) (by kernel_rfl!) fun X hm => ?_
  · obtain ⟨a, b, c, rfl⟩ := len3 e
    with_unfolding_all rfl
  · refine s_cons ?_
    repeat (walk_at "m")
    refine o_addL (Nat.le_of_ble_eq_true rfl) ?_
    exact h
theorem c_terminators {n : Nat} (ok : C.Ok) (hf : At C 23 "_law_terminators") {f : Opd → PV} {a b c d e : Opd} {place : PV} (h : P (.lst ((tms a b c d place).map (Tm.pv f))) σ) :
    Fn C "_law_terminators" (n + 1) [.lst [f a, f b, f c, f d, f e], place] σ P := by
  refine Fn_intro ok hf ["ops", "place"] (fun pm code doc vs e => ?_) rfl (by decide) (by kernel_rfl!) fun X hm => ?_
  · obtain ⟨a, b, rfl⟩ := len2 e
    with_unfolding_all rfl
  · refine s_cons ?_
    repeat (walk_at "m")
    refine o_addL (Nat.le_of_ble_eq_true rfl) ?_
    repeat (walk_at "m")
    refine o_addL (Nat.le_of_ble_eq_true rfl) ?_
    exact h

theorem pls_ints (d : Nat) (l : List Int) : Pls d (l.map PV.int) := Pls.of fun p hp => by
  obtain ⟨i, _, rfl⟩ := List.mem_map.mp hp
  exact Pl.int _ _
theorem any_int (l : List Int) (k : Int) : ((l.map PV.int).any fun y => pvEq y (.int k)) = decide (k ∈ l) := by
  induction l with
  | nil => rfl
  | cons a l ih =>
    rw [List.map_cons, List.any_cons, ih]
    have e : pvEq (.int a) (.int k) = decide (k = a) := by
      show (a == k) = _
      by_cases z : a = k
      · subst z; simp
      · rw [beq_eq_false_iff_ne.mpr z, decide_eq_false (Ne.symm z)]
    rw [e]
    by_cases z : k = a <;> simp [z]
/-- known without the keys and the values of gone -/
def wo (m : List (Int × Sc)) (gone : List Int) : List (Int × Sc) := m.filter fun kv => (!decide (kv.1 ∈ gone)) && (match kv.2 with | .int i => !decide (i ∈ gone) | _ => true)
theorem c_without {n : Nat} (ok : C.Ok) (hf : At C 25 "_law_without") {m : List (Int × Sc)} {gone : List Int} (hw : Wf m) (h : P (.dct (wo m gone)) σ) :
    Fn C "_law_without" (n + 1) [.dct m, .lst (gone.map PV.int)] σ P := by
  refine Fn_intro ok hf ["known", "gone"] (fun pm code doc vs e => ?_) rfl (by decide) (by kernel_rfl!) fun X hm => ?_
  · obtain ⟨a, b, rfl⟩ := len2 e
    with_unfolding_all rfl
  · have hle : m.length ≤ 1000 := Nat.le_trans hw.few (by decide)
    refine s_cons (x_ret (e_callT boot_dict (by decide) (es_cons ?_) (by kernel_rfl!)))
    refine e_comp (e_cell (by kernel_rfl!) rfl ⟨_, rfl, by simpa using hle, fun Y => ?_⟩)
    refine compL_filt (f := fun kv : Int × Sc => PV.int kv.1) (g := pairPV) (c := fun kv => (!decide (kv.1 ∈ gone)) && (match kv.2 with | .int i => !decide (i ∈ gone) | _ => true)) (fun kv hkv P hP => ?_) (fun kv hkv hc P hP => ?_) ?_
    · obtain ⟨k, c⟩ := kv
      obtain ⟨i, rfl⟩ := hw.vals k c hkv
      refine b_boolop (a_and_cons (b_cmp (e_local (by kernel_rfl!) rfl (e_cell (by kernel_rfl!) rfl (o_ninL (pls_ints 8 gone) (Pl.int _ _) (truth_bool ?_))))))
      rw [any_int]
      simp only at hP
      refine ⟨fun e1 => ?_, fun e1 => ?_⟩
      · refine a_and_cons (b_cmp (e_sub (e_cell (by kernel_rfl!) rfl (e_local (by kernel_rfl!) rfl (t_dct (hw.get hkv) ?_)))))
        refine e_cell (by kernel_rfl!) rfl (o_ninL (pls_ints 8 gone) (Pl.int _ _) (truth_bool ?_))
        rw [show scPV (Sc.int i) = PV.int i from rfl, any_int]
        rw [e1, Bool.true_and] at hP
        refine ⟨fun e2 => a_and_nil ?_, fun e2 => ?_⟩
        · rw [e2] at hP; exact hP
        · rw [e2] at hP; exact hP
      · rw [e1, Bool.false_and] at hP
        exact hP
    · obtain ⟨k, c⟩ := kv
      refine e_tuple (es_cons (e_local (by kernel_rfl!) rfl (es_cons (e_sub (e_cell (by kernel_rfl!) rfl (e_local (by kernel_rfl!) rfl (t_dct (hw.get hkv) ?_)))))))
      repeat (walk_at "m")
      exact hP
    · refine es_nil ?_
      exact f_dictPairs (hw.filter _) h

theorem ite01 (p : Bool) : 0 ≤ (if p = true then (1 : Int) else 0) ∧ (if p = true then (1 : Int) else 0) < 4294967296 := by cases p <;> decide
theorem c_pool {n : Nat} (ok : C.Ok) (hf : At C 16 "_law_pool") {ns : List Int} (hl : ns.length ≤ 100) (h : ∀ S a b, σ S = none → P (.ref S) (upd σ S (.list [.int a, .int b]))) :
    Fn C "_law_pool" (n + 1) [.lst (ns.map PV.int)] σ P := by
  refine Fn_intro ok hf ["script"] (fun pm code doc vs e => ?_) rfl (by decide) (by kernel_rfl!) fun X hm => ?_
  · obtain ⟨a, rfl⟩ := len1 e
    with_unfolding_all rfl
  · refine s_cons (x_assign (e_ifexp (b_cmp (e_local (by kernel_rfl!) rfl (e_list (es_nil ⟨by decide, o_ne (d := 9) (Pl.lst (pls_ints 8 ns)) (Pl.lst (Pls.nil _)) (truth_bool ?_)⟩))))))
    have tail : ∀ c : Int, WpS X ((dBody 16).drop 1) ((Str.ofString "cell", .int c) :: ([Str.ofString "script"].zip [PV.lst (ns.map PV.int)])) σ (fun _ σ' => P .none σ') P := by
      intro c
      refine s_cons (x_assign (e_callB boot_max (by decide) ?_ (by kernel_rfl!)))
      repeat (walk_at "m")
      refine o_neg ?_
      repeat (walk_at "m")
      refine o_sub ?_
      repeat (walk_at "m")
      refine f_max ?_
      refine as_local' ?_ (by kernel_rfl!)
      refine s_cons (x_ret (e_listM (es_cons ?_)))
      repeat (walk_at "m")
      refine e_callT boot_int (by decide) ?_ (by kernel_rfl!)
      repeat (walk_at "m")
      refine o_pow (by decide) (by decide) (by decide) ?_
      refine o_ge ?_
      repeat (walk_at "m")
      refine f_int ?_
      refine o_mul (IntMulOk.of_right ?_) ?_
      · exact bits64 (ite01 _).1 (ite01 _).2
      repeat (walk_at "m")
      refine o_mod (by decide) ?_
      repeat (walk_at "m")
      refine o_add ?_
      repeat (walk_at "m")
      refine o_mul (IntMulOk.of_right (bits64 (by decide) (by decide))) ?_
      repeat (walk_at "m")
      refine o_mod (by decide) ?_
      repeat (walk_at "m")
      exact fun S hS => h S _ _ hS
    refine ⟨fun hc => ?_, fun hc => ?_⟩
    · cases ns with
      | nil => exact absurd hc (by decide)
      | cons k ns =>
        refine e_sub (e_local (by kernel_rfl!) rfl (e_int (t_lst (p := .int k) (by decide) rfl (by simp only [List.map_cons, List.length_cons, List.length_map] at hl ⊢; omega) ?_)))
        refine as_local' ?_ (by kernel_rfl!)
        exact tail k
    · refine e_int (as_local' (tail 0) (by kernel_rfl!))
end

theorem pl_sc (d : Nat) (c : Sc) : Pl d (scPV c) := by cases c <;> walk_at "pl"
theorem pl_wd (d : Nat) (b : Bool) : Pl d (wd b) := by cases b <;> unfold wd <;> walk_at "pl"
theorem pl_opd {o : Opd} (h : o.fit) : Pl 5 o.pv := by
  cases o with
  | const v => unfold Opd.pv; walk_at "pl"
  | part mv l q =>
    have hq : Pl 2 q := h
    have := pl_wd 4 mv
    unfold Opd.pv; walk_at "pl"
  | whole mv l =>
    have := pl_wd 4 mv
    unfold Opd.pv; walk_at "pl"
theorem pl_rd {o : Opd} (m : List (Int × Sc)) (h : o.fit) : Pl 5 (rd m o) := by
  cases o with
  | whole mv l =>
    simp only [rd]
    split
    · rename_i c _
      have := pl_sc 3 c
      walk_at "pl"
    · exact pl_opd h
  | _ => exact pl_opd h
theorem pls_map {α : Type} {f : α → PV} {d : Nat} {as : List α} (h : ∀ a ∈ as, Pl d (f a)) : Pls d (as.map f) := Pls.of fun p hp => by
  obtain ⟨a, ha, rfl⟩ := List.mem_map.mp hp
  exact h a ha
def Rv.place {α : Type} : Rv α → Prop
  | .lend p => Pl 5 p
  | .disc p => Pl 5 p
  | _ => True
theorem pl_rv {α : Type} {f : α → PV} {r : Rv α} (h : ∀ a ∈ r.ops, Pl 5 (f a)) (hp : r.place) : Pl 7 (r.pv f) := by
  cases r with
  | use a => have := h a (by simp [Rv.ops]); unfold Rv.pv; walk_at "pl"
  | box a => have := h a (by simp [Rv.ops]); unfold Rv.pv; walk_at "pl"
  | bin a b => have := h a (by simp [Rv.ops]); have := h b (by simp [Rv.ops]); unfold Rv.pv; walk_at "pl"
  | chk a b => have := h a (by simp [Rv.ops]); have := h b (by simp [Rv.ops]); unfold Rv.pv; walk_at "pl"
  | un a => have := h a (by simp [Rv.ops]); unfold Rv.pv; walk_at "pl"
  | cast a => have := h a (by simp [Rv.ops]); unfold Rv.pv; walk_at "pl"
  | tup as => have := pls_map h; unfold Rv.ops at this; unfold Rv.pv; walk_at "pl"
  | arr as => have := pls_map h; unfold Rv.ops at this; unfold Rv.pv; walk_at "pl"
  | adt as => have := pls_map h; unfold Rv.ops at this; unfold Rv.pv; walk_at "pl"
  | lend p => have hp' : Pl 5 p := hp; unfold Rv.pv; walk_at "pl"
  | disc p => have hp' : Pl 5 p := hp; unfold Rv.pv; walk_at "pl"
def St.place : St → Prop
  | .asg p r => Pl 5 p ∧ r.place
  | .live p => Pl 5 p
  | .dead p => Pl 5 p
  | _ => True
theorem pl_st {f : Opd → PV} {r : St} (hf : ∀ o : Opd, o.fit → Pl 5 (f o)) (h : r.fit) (hp : r.place) : Pl 8 (r.pv f) := by
  cases r with
  | asg p r =>
    have h1 := pl_rv (f := f) (fun a ha => hf a (h.2 a ha)) hp.2
    have h2 := hp.1
    unfold St.pv; walk_at "pl"
  | prt o => have := hf o h; unfold St.pv; walk_at "pl"
  | live p => have hp' : Pl 5 p := hp; unfold St.pv; walk_at "pl"
  | dead p => have hp' : Pl 5 p := hp; unfold St.pv; walk_at "pl"
  | nop => unfold St.pv; walk_at "pl"
def Tm.place : Tm → Prop
  | .call x _ p q => PyData.strOk x = true ∧ Pl 5 p ∧ Pl 5 q
  | .drop p => Pl 5 p
  | _ => True
theorem pl_tm {f : Opd → PV} {r : Tm} (hf : ∀ o : Opd, o.fit → Pl 5 (f o)) (h : r.fit) (hp : r.place) : Pl 8 (r.pv f) := by
  cases r with
  | sw o => have := hf o h; unfold Tm.pv; walk_at "pl"
  | asr o => have := hf o h; unfold Tm.pv; walk_at "pl"
  | call x as p q =>
    have h1 := pls_map (f := f) fun a ha => hf a (h.2 a ha)
    obtain ⟨h2, h3, h4⟩ := hp
    have h5 : Pl 5 (.str x) := Pl.str _ h2
    unfold Tm.pv; walk_at "pl"
  | goto => unfold Tm.pv; walk_at "pl"
  | ret => unfold Tm.pv; walk_at "pl"
  | drop p => have hp' : Pl 5 p := hp; unfold Tm.pv; walk_at "pl"
  | panic => unfold Tm.pv; walk_at "pl"
  | unre => unfold Tm.pv; walk_at "pl"

section
variable {C : Ctx} {n : Nat} {kt : List (Str × NameKind)} {X : Cx C n kt} {ρ ρ' : Loc} {σ σ' : Store} {P : PV → Store → Prop} {Qn : Loc → Store → Prop} {Qr : PV → Store → Prop}
/-- a list compared with its like -/
theorem ne_self {d : Nat} {p : PV} (hp : Pl d p) (h : P (.bool false) σ) (hd : d ≤ 60 := by decide) : Op2 X (compareOp .NotEq) p p ρ σ P := o_ne hp hp (by rw [pvEq_refl hp]; exact h) hd
theorem eq_self {d : Nat} {p : PV} (hp : Pl d p) (h : P (.bool true) σ) (hd : d ≤ 60 := by decide) : Op2 X (compareOp .Eq) p p ρ σ P := o_eq hp hp (by rw [pvEq_refl hp]; exact h) hd
end

theorem intsUp_length (x : Int) : ∀ k, (intsUp x k).length = k
  | 0 => rfl
  | k + 1 => by simp [intsUp, intsUp_length (x + 1) k]

structure Prg (C : Ctx) : Prop where
  ok : C.Ok
  h3 : At C 3 "operands_of"
  h4 : At C 4 "with_operands"
  h8 : At C 8 "read_operand"
  h9 : At C 9 "read_operands"
  h10 : At C 10 "read_rvalue"
  h11 : At C 11 "read_statement"
  h12 : At C 12 "read_terminator"
  h13 : At C 13 "forget"
  h14 : At C 14 "forget_moved"
  h16 : At C 16 "_law_pool"
  h17 : At C 17 "_law_take"
  h18 : At C 18 "_law_one"
  h19 : At C 19 "_law_u8"
  h20 : At C 20 "_law_twin"
  h21 : At C 21 "_law_rvalues"
  h22 : At C 22 "_law_statements"
  h23 : At C 23 "_law_terminators"
  h24 : At C 24 "_law_reads_right"
  h25 : At C 25 "_law_without"
  h26 : At C 26 "_law_forgets_right"
  h27 : At C 27 "_law_lent_right"
  h7 : At C 7 "lent_or_other"

theorem list5 {α : Type} {l : List α} (h : l.length = 5) : ∃ a b c d e, l = [a, b, c, d, e] := by
  match l, h with
  | [a, b, c, d, e], _ => exact ⟨a, b, c, d, e, rfl⟩

section
variable {C : Ctx} {σ : Store} {P : PV → Store → Prop}
theorem c_reads_right {n : Nat} (g : Prg C) {S : Addr} {m : List (Int × Sc)} (hs : Src σ S) (hw : Wf m) (h : ∀ σ', To S σ σ' → P (.bool true) σ') :
    Fn C "_law_reads_right" (n + 5) [.ref S, .dct m] σ P := by
  have hle : m.length ≤ 1000 := Nat.le_trans hw.few (by decide)
  refine Fn_intro g.ok g.h24 ["source", "known"] (fun pm code doc vs e => ?_) rfl (by decide) (by kernel_rfl!) fun X hm => ?_
  · obtain ⟨a, b, rfl⟩ := len2 e
    with_unfolding_all rfl
  · -- twins, handed
    refine s_cons (x_assign_sw (a := "twins") (b := "handed") (e_tuple (es_cons (e_comp (e_callT boot_range (by decide) ?_ (by kernel_rfl!))))))
    repeat (walk_at "m")
    refine f_range ⟨_, rfl, Nat.le_of_ble_eq_true rfl, fun Y => ?_⟩
    refine compL_inv (fun i acc σ' => To S σ σ' ∧ ∃ os : List Opd, os.length = i ∧ (∀ o ∈ os, o.fit) ∧ acc = os.map fun o => .tup [o.pv, rd m o]) (i := 0) (fun p hp i acc σ' hI P hP => ?_) ⟨To.refl hs, [], rfl, by simp, rfl⟩ fun acc σ₁ hI => ?_
    · obtain ⟨t, os, hlen, hfit, rfl⟩ := hI
      refine e_call g.h20 (by kernel_rfl!) ?_
      repeat (walk_at "m")
      refine c_twin g.ok g.h17 g.h18 g.h19 g.h20 t.src fun o σ₂ t₂ ho => hP _ _ ⟨t.trans t₂, os ++ [o], by simp [hlen], ?_, by simp⟩
      intro o' ho'
      rcases List.mem_append.mp ho' with z | z
      · exact hfit o' z
      · rw [List.mem_singleton.mp z]; exact ho
    obtain ⟨t1, os, hlen, hfit, rfl⟩ := hI
    rw [intsUp_length] at hlen
    obtain ⟨a, b, c, d, e, rfl⟩ := list5 (l := os) hlen
    have fa := hfit a (by simp)
    have fb := hfit b (by simp)
    have fc := hfit c (by simp)
    have fd := hfit d (by simp)
    have fe := hfit e (by simp)
    refine es_cons (e_callT boot_dict (by decide) (es_cons (e_cell (by kernel_rfl!) rfl (es_nil (f_dict hle ?_)))) (by kernel_rfl!))
    repeat (walk_at "m")
    refine ⟨_, _, rfl, ?_⟩
    -- ops, due
    refine s_cons (x_assign_sw (a := "ops") (b := "due") (e_tuple (es_cons (e_comp (e_local (by kernel_rfl!) rfl ⟨_, rfl, Nat.le_of_ble_eq_true rfl, fun Y => ?_⟩)))))
    refine compL_map (as := [a, b, c, d, e]) (g := Opd.pv) (fun o ho P hP => ?_) ?_
    · repeat (walk_at "m")
      exact hP
    refine es_cons (e_comp (e_local (by kernel_rfl!) rfl ⟨_, rfl, Nat.le_of_ble_eq_true rfl, fun Y => ?_⟩))
    refine compL_map (as := [a, b, c, d, e]) (g := rd m) (fun o ho P hP => ?_) ?_
    · repeat (walk_at "m")
      exact hP
    repeat (walk_at "m")
    refine ⟨_, _, rfl, ?_⟩
    -- place
    repeat (walk_at "m")
    refine e_call g.h17 (by kernel_rfl!) ?_
    repeat (walk_at "m")
    refine c_take g.ok g.h17 t1.src (by decide) (by decide) fun l σ₂ t2 l0 l6 => ?_
    refine es_cons (e_call g.h18 (by kernel_rfl!) ?_)
    repeat (walk_at "m")
    refine c_one g.ok g.h17 g.h18 t2.src (by simp) (Nat.le_of_ble_eq_true rfl) fun q hq σ₃ t3 => ?_
    have hq2 : Pl 3 q := by
      simp only [List.mem_cons, List.not_mem_nil, or_false] at hq
      rcases hq with rfl | rfl <;> walk_at "pl"
    have hplace : Pl 5 (.tup [.int l, q]) := by walk_at "pl"
    repeat (walk_at "m")
    -- the operands
    refine e_comp (e_local (by kernel_rfl!) rfl ⟨_, rfl, Nat.le_of_ble_eq_true rfl, fun Y => ?_⟩)
    refine compL_map (as := [a, b, c, d, e]) (g := rd m) (fun o ho P hP => ?_) ?_
    · refine e_call g.h8 (by kernel_rfl!) ?_
      repeat (walk_at "m")
      exact c_read_operand g.ok g.h8 (hfit o ho) hP
    have pa := pl_rd m fa
    have pb := pl_rd m fb
    have pc := pl_rd m fc
    have pd := pl_rd m fd
    have pe := pl_rd m fe
    have pdue : Pl 6 (.lst ([] ++ [a, b, c, d, e].map (rd m))) := Pl.lst (pls_map fun o ho => pl_rd m (hfit o ho))
    have pdueT : Pl 6 (.tup ([a, b, c, d, e].map (rd m))) := Pl.tup (pls_map fun o ho => pl_rd m (hfit o ho))
    refine e_local (by kernel_rfl!) rfl (ne_self pdue (truth_bool (rb_false rfl ?_)))
    refine a_or_cons (b_cmp (e_call g.h9 (by kernel_rfl!) ?_))
    refine es_cons (e_callT boot_tuple (by decide) (es_cons (e_local (by kernel_rfl!) rfl (es_nil (f_tupL (Nat.le_of_ble_eq_true rfl) ?_)))) (by kernel_rfl!))
    repeat (walk_at "m")
    refine c_read_operands (os := [a, b, c, d, e]) g.ok g.h8 g.h9 (.inr rfl) (Nat.le_of_ble_eq_true rfl) hfit ?_
    refine e_callT boot_tuple (by decide) (es_cons (e_local (by kernel_rfl!) rfl (es_nil (f_tupL (Nat.le_of_ble_eq_true rfl) ?_)))) (by kernel_rfl!)
    refine ne_self pdueT (truth_bool (rb_false rfl (a_or_nil (br_false rfl (s_nil ?_)))))
    -- rvalues, later
    refine s_cons (x_assign_sw (a := "rvalues") (b := "later") (e_tuple (es_cons (e_call g.h21 (by kernel_rfl!) ?_))))
    repeat (walk_at "m")
    refine c_rvalues (f := Opd.pv) (a := a) (b := b) (c := c) (d := d) (e := e) g.ok g.h21 ?_
    refine es_cons (e_call g.h21 (by kernel_rfl!) ?_)
    repeat (walk_at "m")
    refine c_rvalues (f := rd m) (a := a) (b := b) (c := c) (d := d) (e := e) g.ok g.h21 ?_
    repeat (walk_at "m")
    refine ⟨_, _, rfl, ?_⟩
    generalize hrv : rvs a b c d e (PV.tup [.int l, q]) = rv
    have hrvl : rv.length = 12 := by rw [← hrv]; rfl
    have hrvf : ∀ r ∈ rv, (r.ops.length ≤ 1000 ∧ ∀ o ∈ r.ops, o.fit) ∧ r.place := by
      intro r hr
      rw [← hrv] at hr
      simp only [rvs, List.mem_cons, List.not_mem_nil, or_false] at hr
      rcases hr with rfl | rfl | rfl | rfl | rfl | rfl | rfl | rfl | rfl | rfl | rfl | rfl <;> refine ⟨⟨Nat.le_of_ble_eq_true rfl, fun o ho => hfit o ?_⟩, ?_⟩ <;> first | exact hplace | trivial | (simp only [Rv.ops, List.mem_cons, List.not_mem_nil, or_false] at ho ⊢; try (rcases ho with rfl | rfl | rfl)) <;> simp_all
    have plater : Pl 8 (.lst (rv.map (Rv.pv (rd m)))) := Pl.lst (pls_map fun r hr => pl_rv (fun o ho => pl_rd m ((hrvf r hr).1.2 o ho)) (hrvf r hr).2)
    refine s_cons (x_if (b_cmp ?_))
    refine e_comp (e_local (by kernel_rfl!) rfl ⟨_, rfl, by simp [hrvl], fun Y => ?_⟩)
    refine compL_map (as := rv) (g := Rv.pv (rd m)) (fun r hr P hP => ?_) ?_
    · refine e_call g.h10 (by kernel_rfl!) ?_
      repeat (walk_at "m")
      exact c_read_rvalue g.ok g.h3 g.h4 g.h8 g.h9 g.h10 (hrvf r hr).1.1 (hrvf r hr).1.2 hP
    refine e_local (by kernel_rfl!) rfl (ne_self plater (truth_bool (br_false rfl (s_nil ?_))))
    -- at
    refine s_cons (x_assign (e_call g.h17 (by kernel_rfl!) ?_))
    repeat (walk_at "m")
    refine e_callB PySem.boot_len (by decide) (es_cons (e_local (by kernel_rfl!) rfl (es_nil (f_lenL (by simp [hrvl]) ?_)))) (by kernel_rfl!)
    repeat (walk_at "m")
    refine c_take g.ok g.h17 t3.src (by simp [hrvl]) (by simp [hrvl]) fun at_ σ₄ t4 at0 at12 => ?_
    have hat : at_.toNat < rv.length := by simp [hrvl] at at12 ⊢; omega
    obtain ⟨r, hr⟩ : ∃ r, rv[at_.toNat]? = some r := ⟨_, List.getElem?_eq_getElem hat⟩
    have hrm : r ∈ rv := List.mem_of_getElem? hr
    refine as_local' ?_ (by kernel_rfl!)
    -- statements
    generalize hst : sts a r (.int l) q = st
    have hstl : st.length = 5 := by rw [← hst]; rfl
    have hstf : ∀ x ∈ st, x.fit ∧ x.place := by
      intro x hx
      rw [← hst] at hx
      simp only [sts, List.mem_cons, List.not_mem_nil, or_false] at hx
      rcases hx with rfl | rfl | rfl | rfl | rfl
      · exact ⟨(hrvf r hrm).1, hplace, (hrvf r hrm).2⟩
      · exact ⟨fa, trivial⟩
      · exact ⟨trivial, Pl.int _ _⟩
      · exact ⟨trivial, Pl.int _ _⟩
      · exact ⟨trivial, trivial⟩
    refine s_cons (x_comp (e_call g.h22 (by kernel_rfl!) ?_))
    repeat (walk_at "m")
    refine t_lst (p := r.pv Opd.pv) at0 (by rw [List.getElem?_map, hr]; rfl) (by simp [hrvl]) ?_
    repeat (walk_at "m")
    refine c_statements (f := Opd.pv) (r := r) (a := a) (b := b) (c := c) (d := d) (e := e) g.ok g.h22 ?_
    rw [hst]
    refine ⟨_, rfl, by simp [hstl], fun Y => ?_⟩
    refine compL_map (as := st) (g := St.pv (rd m)) (fun x hx P hP => ?_) ?_
    · refine e_call g.h11 (by kernel_rfl!) ?_
      repeat (walk_at "m")
      exact c_read_statement g.ok g.h3 g.h4 g.h8 g.h9 g.h10 g.h11 (hstf x hx).1 hP
    refine s_cons (x_if (b_cmp (e_local (by kernel_rfl!) rfl (e_call g.h22 (by kernel_rfl!) ?_))))
    repeat (walk_at "m")
    refine t_lst (p := r.pv (rd m)) at0 (by rw [List.getElem?_map, hr]; rfl) (by simp [hrvl]) ?_
    repeat (walk_at "m")
    refine c_statements (f := rd m) (r := r) (a := a) (b := b) (c := c) (d := d) (e := e) g.ok g.h22 ?_
    rw [hst]
    have pst : Pl 9 (.lst (st.map (St.pv (rd m)))) := Pl.lst (pls_map fun x hx => pl_st (fun o => pl_rd m) (hstf x hx).1 (hstf x hx).2)
    refine ne_self pst (truth_bool (br_false rfl (s_nil ?_)))
    -- terminators
    generalize htm : tms a b c d (PV.tup [.int l, q]) = tm
    have html : tm.length = 9 := by rw [← htm]; rfl
    have htmf : ∀ x ∈ tm, x.fit ∧ x.place := by
      intro x hx
      rw [← htm] at hx
      simp only [tms, List.mem_cons, List.not_mem_nil, or_false] at hx
      rcases hx with rfl | rfl | rfl | rfl | rfl | rfl | rfl | rfl | rfl
      · exact ⟨fa, trivial⟩
      · exact ⟨fb, trivial⟩
      · exact ⟨⟨Nat.le_of_ble_eq_true rfl, fun o ho => hfit o (by simp only [List.mem_cons, List.not_mem_nil, or_false] at ho ⊢; rcases ho with rfl | rfl <;> simp)⟩, by kernel_rfl!, hplace, Pl.int _ _⟩
      · exact ⟨⟨Nat.le_of_ble_eq_true rfl, fun o ho => by cases ho⟩, by kernel_rfl!, hplace, Pl.none _⟩
      · exact ⟨trivial, trivial⟩
      · exact ⟨trivial, trivial⟩
      · exact ⟨trivial, hplace⟩
      · exact ⟨trivial, trivial⟩
      · exact ⟨trivial, trivial⟩
    refine s_cons (x_comp (e_call g.h23 (by kernel_rfl!) ?_))
    repeat (walk_at "m")
    refine c_terminators (f := Opd.pv) (a := a) (b := b) (c := c) (d := d) (e := e) g.ok g.h23 ?_
    rw [htm]
    refine ⟨_, rfl, by simp [html], fun Y => ?_⟩
    refine compL_map (as := tm) (g := Tm.pv (rd m)) (fun x hx P hP => ?_) ?_
    · refine e_call g.h12 (by kernel_rfl!) ?_
      repeat (walk_at "m")
      exact c_read_terminator g.ok g.h8 g.h9 g.h12 (htmf x hx).1 hP
    refine s_cons (x_ret (e_and (e_cmp (e_local (by kernel_rfl!) rfl (e_call g.h23 (by kernel_rfl!) ?_)))))
    repeat (walk_at "m")
    refine c_terminators (f := rd m) (a := a) (b := b) (c := c) (d := d) (e := e) g.ok g.h23 ?_
    rw [htm]
    have ptm : Pl 9 (.lst (tm.map (Tm.pv (rd m)))) := Pl.lst (pls_map fun x hx => pl_tm (fun o => pl_rd m) (htmf x hx).1 (htmf x hx).2)
    refine eq_self ptm ⟨true, rfl, br_true rfl ?_⟩
    refine e_and1 (e_cmp (e_cell (by kernel_rfl!) rfl (e_local (by kernel_rfl!) rfl (o_eqD ?_))))
    exact h _ (((t1.trans t2).trans t3).trans t4)
end

theorem wo_nil (m : List (Int × Sc)) : wo m [] = m := by
  unfold wo
  rw [List.filter_eq_self]
  intro kv _
  cases kv.2 <;> simp
theorem wo_cons (m : List (Int × Sc)) (l : Int) (g : List Int) : wo (fgt m l) g = wo m (l :: g) := by
  unfold wo fgt
  rw [List.filter_filter]
  refine List.filter_congr fun kv _ => ?_
  obtain ⟨k, c⟩ := kv
  cases c with
  | bool b => by_cases h1 : k = l <;> by_cases h2 : k ∈ g <;> simp [h1, h2]
  | int i => by_cases h1 : k = l <;> by_cases h2 : k ∈ g <;> by_cases h3 : i = l <;> by_cases h4 : i ∈ g <;> simp [h1, h2, h3, h4]
theorem wo_one (m : List (Int × Sc)) (l : Int) : wo m [l] = fgt m l := by rw [← wo_cons, wo_nil]
def goneOf (os : List Opd) : List Int := (os.filter Opd.moved).map Opd.loc
theorem wo_all : ∀ (os : List Opd) (m : List (Int × Sc)), wo m (goneOf os) = fgtAll m os
  | [], m => wo_nil m
  | o :: os, m => by
    have ih := wo_all os
    unfold goneOf fgtAll at *
    rw [List.foldl_cons, List.filter_cons]
    cases h : o.moved with
    | true => simp only [if_true, List.map_cons]; rw [← wo_cons]; exact ih _
    | false => simp only [Bool.false_eq_true, if_false]; exact ih _
theorem Simple.to {S : Addr} {σ σ' : Store} (h : Simple σ) (t : To S σ σ') : Simple σ' := fun b o e => by
  by_cases z : b = S
  · subst z
    obtain ⟨x, y, hs⟩ := t.src
    rw [hs] at e
    cases e
    exact ⟨[x, y], rfl⟩
  · rw [t.rest b z] at e
    exact h b o e
theorem era_upd {σ : Store} {a : Addr} {o : PObj} (h : σ a = none) : era (upd σ a o) a = σ := by
  funext b
  unfold era upd
  by_cases z : b = a
  · subst z; simp [h]
  · simp [z]
theorem Src.upd {σ : Store} {S F : Addr} {o : PObj} (h : Src σ S) (hF : σ F = none) : Src (Mine.upd σ F o) S := by
  obtain ⟨x, y, hs⟩ := h
  refine ⟨x, y, ?_⟩
  unfold Mine.upd
  rw [if_neg (fun z => by subst z; rw [hF] at hs; cases hs)]
  exact hs
section
variable {C : Ctx} {n : Nat} {kt : List (Str × NameKind)} {X : Cx C n kt} {ρ ρ' : Loc} {σ σ' : Store} {P : PV → Store → Prop} {Qn : Loc → Store → Prop} {Qr : PV → Store → Prop}
theorem s_freezeD' {ss : List Stmt} (x : Str) {a : Addr} {kvs : List (Int × Sc)} (hx : get ρ x = some (.ref a)) (ha : σ a = none) (h : WpS X ss ((x, .dct kvs) :: ρ) σ Qn Qr) : WpS X ss ρ (upd σ a (.dict kvs)) Qn Qr := by
  refine s_freezeD hx upd_at ?_
  rw [era_upd ha]
  unfold sub
  rw [if_pos rfl]
  exact h

theorem c_forgets_right {n : Nat} (g : Prg C) {S : Addr} {m : List (Int × Sc)} (hs : Src σ S) (hsi : Simple σ) (hw : Wf m) (h : ∀ σ', To S σ σ' → P (.bool true) σ') :
    Fn C "_law_forgets_right" (n + 5) [.ref S, .dct m] σ P := by
  have hle : m.length ≤ 1000 := Nat.le_trans hw.few (by decide)
  refine Fn_intro g.ok g.h26 ["source", "known"] (fun pm code doc vs e => ?_) rfl (by decide) (by kernel_rfl!) fun X hm => ?_
  · obtain ⟨a, b, rfl⟩ := len2 e
    with_unfolding_all rfl
  · refine s_cons (x_assign_sw (a := "local") (b := "left") (e_tuple (es_cons (e_call g.h17 (by kernel_rfl!) ?_))))
    repeat (walk_at "m")
    refine c_take g.ok g.h17 hs (by decide) (by decide) fun l σ₁ t1 l0 l6 => ?_
    refine es_cons (e_callT boot_dict (by decide) (es_cons (e_cell (by kernel_rfl!) rfl (es_nil (f_dictM hle fun F hF => ?_)))) (by kernel_rfl!))
    repeat (walk_at "m")
    refine ⟨_, _, rfl, ?_⟩
    refine s_cons (x_expr (e_call g.h13 (by kernel_rfl!) ?_))
    repeat (walk_at "m")
    refine c_forget g.ok g.h13 (hsi.to t1).upd upd_at hw ⟨trivial, ?_⟩
    rw [upd_upd]
    refine s_freezeD' "left" rfl hF ?_
    refine s_cons (x_if (b_cmp (e_local (by kernel_rfl!) rfl (e_call g.h25 (by kernel_rfl!) ?_))))
    repeat (walk_at "m")
    refine c_without (gone := [l]) g.ok g.h25 hw ?_
    rw [wo_one]
    refine o_neD (truth_bool (br_false rfl (s_nil ?_)))
    -- ops, left
    refine s_cons (x_assign_sw (a := "ops") (b := "left") (e_tuple (es_cons (e_comp (e_callT boot_range (by decide) (es_cons (e_call g.h17 (by kernel_rfl!) ?_)) (by kernel_rfl!))))))
    repeat (walk_at "m")
    refine c_take g.ok g.h17 t1.src (by decide) (by decide) fun k σ₂ t2 k0 k4 => ?_
    have hk : 0 ≤ k ∧ k ≤ 1000 := ⟨k0, by omega⟩
    refine es_nil (f_range ⟨intsUp 0 k.toNat, by simp [itemsOf, hk], by rw [intsUp_length]; omega, fun Y => ?_⟩)
    refine compL_inv (fun i acc σ' => To S σ₂ σ' ∧ ∃ os : List Opd, os.length = i ∧ (∀ o ∈ os, o.fit) ∧ acc = os.map Opd.pv) (i := 0) (fun p hp i acc σ' hI P hP => ?_) ⟨To.refl t2.src, [], rfl, by simp, rfl⟩ fun acc σ₃ hI => ?_
    · obtain ⟨t, os, hlen, hfit, rfl⟩ := hI
      refine e_sub (e_call g.h20 (by kernel_rfl!) ?_)
      repeat (walk_at "m")
      refine c_twin g.ok g.h17 g.h18 g.h19 g.h20 t.src fun o σ₄ t₄ ho => ?_
      repeat (walk_at "m")
      refine hP _ _ ⟨t.trans t₄, os ++ [o], by simp [hlen], ?_, by simp⟩
      intro o' ho'
      rcases List.mem_append.mp ho' with z | z
      · exact hfit o' z
      · rw [List.mem_singleton.mp z]; exact ho
    obtain ⟨t3, os, hlen, hfit, rfl⟩ := hI
    have t13 := (t1.trans t2).trans t3
    refine es_cons (e_callT boot_dict (by decide) (es_cons (e_cell (by kernel_rfl!) rfl (es_nil (f_dictM hle fun F' hF' => ?_)))) (by kernel_rfl!))
    repeat (walk_at "m")
    refine ⟨_, _, rfl, ?_⟩
    refine s_cons (x_expr (e_call g.h14 (by kernel_rfl!) ?_))
    repeat (walk_at "m")
    refine c_forget_moved (os := os) g.ok g.h13 g.h14 (hsi.to t13).upd upd_at hw hfit ⟨trivial, ?_⟩
    rw [upd_upd]
    refine s_freezeD' "left" rfl hF' ?_
    refine s_cons (x_ret (e_cmp (e_local (by kernel_rfl!) rfl (e_call g.h25 (by kernel_rfl!) (es_cons (e_cell (by kernel_rfl!) rfl (es_cons ?_)))))))
    have hol : os.length ≤ 1000 := by rw [hlen, intsUp_length]; omega
    refine e_comp (e_local (by kernel_rfl!) rfl ⟨os.map Opd.pv, rfl, by simpa using hol, fun Y => ?_⟩)
    refine compL_filt (as := os) (g := fun o => PV.int o.loc) (c := Opd.moved) (fun o ho P hP => ?_) (fun o ho hc P hP => ?_) ?_
    · cases o with
      | const v =>
        simp only [Opd.pv, Opd.moved] at hP ⊢
        repeat (walk_at "m")
        exact hP
      | part mv l q =>
        cases mv <;> simp only [Opd.pv, Opd.moved, wd] at hP ⊢ <;> (repeat (walk_at "m")) <;> exact hP
      | whole mv l =>
        cases mv <;> simp only [Opd.pv, Opd.moved, wd] at hP ⊢ <;> (repeat (walk_at "m")) <;> exact hP
    · cases o with
      | const v => cases hc
      | part mv l q =>
        simp only [Opd.pv, Opd.loc] at hP ⊢
        repeat (walk_at "m")
        exact hP
      | whole mv l =>
        simp only [Opd.pv, Opd.loc] at hP ⊢
        repeat (walk_at "m")
        exact hP
    · have e1 : ([] ++ (os.filter Opd.moved).map fun o => PV.int o.loc) = (goneOf os).map PV.int := by simp [goneOf, Function.comp_def]
      rw [e1]
      refine es_nil (c_without (gone := goneOf os) g.ok g.h25 hw ?_)
      rw [wo_all]
      exact o_eqD (h _ t13)
end

-- a list that is taken apart
section
variable {prog : Program} {w : World} {A : Around} {E : Value → Shared → Prop} {s : Shared}
theorem draw_list {it t : Addr} {items : Array Value} (hne : t ≠ it) : ∀ (n i : Nat) (s : Shared) (Q : List Value → Shared → Prop), s.heap.IsListIter it t i → s.heap.IsList t items → i + n ≤ items.size →
    (∀ h', h'.IsListIter it t (i + n) → Heap.SameBut it s.heap h' → Q ((items.toList.drop i).take n) { s with heap := h' }) → wpAny (model prog w) A (draw (.ref it) n) Q E s
  | 0, i, s, Q, hit, _, _, hQ => by
    show wpAny _ _ (pure []) Q E s
    exact wpAny_pure (by simpa using hQ s.heap hit (Heap.SameBut.refl ..))
  | n + 1, i, s, Q, hit, ht, hle, hQ => by
    have hlt : i < items.size := by omega
    show wpAny _ _ (pyNext (.ref it) >>= _) Q E s
    refine wpAny_bind (wpAny_pyNext_list_item hit ht (x := items[i]) (by simp [hlt]) fun h₁ hit₁ hs₁ => ?_)
    refine wpAny_bind (wpAny_holding (draw_list hne n (i + 1) _ _ hit₁ (ht.extBut hs₁.extBut hne) (by omega) fun h₂ hit₂ hs₂ => wpAny_pure ?_))
    have hd : items.toList.drop i = items[i] :: items.toList.drop (i + 1) := by simp [List.drop_eq_getElem_cons, hlt]
    have := hQ h₂ (by rw [show i + (n + 1) = i + 1 + n by omega]; exact hit₂) (hs₁.trans hs₂)
    rw [hd, List.take_succ_cons] at this
    exact this
theorem unpackItems_list {t : Addr} {items : Array Value} {Q : List Value → Shared → Prop} (hh : A.handled = none) (ht : s.heap.IsList t items)
    (hQ : ∀ h', Heap.ExtBut s.heap.objs.size s.heap h' → Q items.toList { s with heap := h' }) : wpAny (model prog w) A (unpackItems (.ref t) items.size none) Q E s := by
  have hlt : t ≠ s.heap.objs.size := by obtain ⟨o, ho, _⟩ := ht; exact Nat.ne_of_lt (Heap.lt_size ho)
  unfold unpackItems
  refine wpAny_bind ?_
  · unfold notIterableAtAll
    refine wpAny_bind (wpAny_specialOf ht.typeIs slot_list_iter.lookup ?_)
    refine wpAny_pure ?_
    simp only [Bool.false_eq_true, if_false]
    refine wpAny_bind (wpAny_holding (wpAny_pyIter_list ht ?_))
    refine wpAny_bind (wpAny_holding (draw_list hlt items.size 0 _ _ ⟨_, Heap.get?_push_size _ rfl, rfl, rfl⟩ (ht.push _) (by omega) fun h₁ hit₁ hs₁ => ?_))
    have hall : List.take items.size (List.drop 0 items.toList) = items.toList := by
      rw [List.drop_zero]; exact List.take_of_length_le (by simp)
    rw [hall]
    rw [if_neg (by simp)]
    have ht₁ : h₁.IsList t items := (ht.push _).extBut hs₁.extBut hlt
    refine wpAny_bind (wpAny_holding (wpAny_pyNext_list_end hh hit₁ ht₁ (by simp) fun h₂ he₂ => ?_))
    simp only [Option.isSome_none, Bool.false_eq_true, if_false]
    refine wpAny_pure (hQ h₂ fun b o hb e => he₂ b o hb (hs₁.extBut b o hb (Heap.get?_push_of_some _ e)))
theorem assign_TupleL {env : Env} {elts : List Expr} {x1} {pos : Pos} {t : Addr} {items : Array Value} {Q : Unit → Shared → Prop} (hh : A.handled = none) (ht : s.heap.IsList t items)
    (hn : (assignEach elts env).length = items.size) (hstar : (assignEach elts env).findIdx? (·.1) = none)
    (h : ∀ h', Heap.ExtBut s.heap.objs.size s.heap h' → wpAny (model prog w) A (assignInOrder ((assignEach elts env).map (·.2)) items.toList) Q E { s with heap := h' }) :
    wpAny (model prog w) A (assign (.Tuple elts x1 pos) env (.ref t)) Q E s := by
  rw [arm_assign_Tuple]
  unfold unpack
  rw [hn, hstar]
  exact wpAny_bind (wpAny_standAt (wpAny_bind (wpAny_holding (unpackItems_list hh ht h))))
end

section
variable {C : Ctx} {n : Nat} {kt : List (Str × NameKind)} {X : Cx C n kt} {ρ ρ' : Loc} {σ σ' : Store} {π π' : Priv} {s s' : Shared} {h h' : Heap} {P P' : PV → Store → Prop} {Qn : Loc → Store → Prop} {Qr : PV → Store → Prop}
theorem as_tup2L {t₁ t₂ : Expr} {k : Nat} {pos : Pos} {p q : PV} {Q : Loc → Store → Prop} (h : AsW X t₁ p ρ σ fun ρ₁ σ₁ => AsW X t₂ q ρ₁ σ₁ Q)
    (he : ∀ env, assignEach [t₁, t₂] env = [(false, assign t₁ env), (false, assign t₂ env)] := by intro _; rfl) : AsW X (.Tuple [t₁, t₂] k pos) (.lst [p, q]) ρ σ Q := fun s π v i r => by
  cases r with
  | lst ht f rs =>
    cases rs with
    | cons r1 rs =>
      cases rs with
      | cons r2 rs =>
        cases rs
        refine assign_TupleL X.lv.1 (IsL.isL ht) (by rw [he]; rfl) (by rw [he]; rfl) fun h' hx => ?_
        rw [he]
        have hk := ExtBut.all hx
        have i' := i.grow hk
        have hr : ∀ {v p}, RV C s.heap σ π v p → RV C h' σ π v p := fun r => r.mono fun b o e f => ⟨hk b o e, f⟩
        exact wpAny_mono (unp2 (s := { s with heap := h' }) h i' (hr r1) (hr r2) fun a => (hr r2).adv a) (fun _ s₂ y => PostA.after (s₁ := { s with heap := h' }) (Adv.grow hk) ⟨rfl, rfl, rfl⟩ y) fun _ _ x => x

/-- a name of the text's top that holds data -/
theorem e_global {x : Str} {pos : Pos} {p : PV} (hk : kt.lookup x = some .globalImplicit) (hg : ∃ v, C.mg x = some v ∧ RV C C.h₀ (fun _ => none) (fun _ => False) v p) (h : P p σ) (hd : (x == ("__debug__" : Str)) = false := by decide +kernel) : WpE X (.Name x pos) ρ σ P := fun s π i => by
  obtain ⟨v, hv, r⟩ := hg
  refine Calls.Name_function_global X.kind ((X.names x).trans hk) (Calls.loadGlobal_global (mg := C.mg) (by rw [X.globals]; exact X.ok.g.keeps i.base.base) hv ?_) hd
  refine .here i (r.mono fun b o e f => ⟨i.base.base b o e, ?_, fun z => ?_⟩) h
  · cases q : σ b with
    | none => rfl
    | some ob => have := (i.base.store b ob q).2.1; rw [e] at this; cases this
  · have := (i.base.priv b z).1; rw [e] at this; cases this

-- objects of the text's class
structure BodyC (C : Ctx) (K : Frag) (B fI : Addr) : Prop where
  X₀ : K.In C.h₀
  mg : C.mg "Body" = some (.ref B)
  keep : keepIn K (.ref B) = true
  mks : makesIn K B = true
  ini : findIn K (.ref B) "__init__" = some (some (.ref fI))
  isfn : typeIn K (.ref fI) = some (.type "function")
  ga : findIn K (.ref B) "__getattribute__" = some (some (.builtin "object.__getattribute__"))
  sa : findIn K (.ref B) "__setattr__" = some (some (.builtin "object.__setattr__"))
  po : plainOver K B = true
  hd : hasDictIn K B = true
  no : ∀ x ∈ (["name", "arg_count", "locals", "blocks", "spots"] : List Str), findIn K (.ref B) x = some none

theorem lookIn_ns {o : Obj} {es : Array DictEntry} {ep : Nat} {name : Str} {v : Value} (hd : o.data = .dict es ep) (hf : nsFind es name = some v) : lookIn name o = some (some v) := by
  unfold lookIn
  rw [hd]
  unfold nsFind findBy at hf
  obtain ⟨e, h1, h2⟩ := Option.map_eq_some_iff.mp hf
  have h3 : es.toList.find? (fun e => e.key.isStr name) = some e := by rw [← Array.find?_toList] at h1; exact h1
  simp only [h3, h2]

theorem e_attr {o : Expr} {attr : Str} {pos : Pos} {K : Frag} {B fI : Addr} (bc : BodyC C K B fI) (hm : attr ∈ (["name", "arg_count", "locals", "blocks", "spots"] : List Str))
    (h : WpE X o ρ σ fun p σ₁ => ∃ a fs q, p = .ref a ∧ σ₁ a = some (.inst B fs) ∧ fs.lookup attr = some q ∧ P q σ₁)
    (hbase : ∀ env, attributeBase o attr env (eval o env) = eval o env := by intro _; rfl) : WpE X (.Attribute o attr pos) ρ σ P := fun s π i => by
  rw [arm_eval_Attribute, hbase]
  refine wpAny_bind (wpAny_mono (h s π i) (fun v s₁ x => ?_) fun _ _ x => x)
  obtain ⟨_, σ₁, π₁, r, i₁, c, d, a, fs, q, rfl, ha, hq, hP⟩ := x
  cases r
  obtain ⟨⟨dx, m, hx, hhid, hns, hf⟩, _⟩ := i₁.base.store a _ ha
  have hfa := hf attr
  rw [hq] at hfa
  obtain ⟨v, hv, rv⟩ := hfa
  obtain ⟨od, es, ep, hod, hdat, hsk, hfind, _⟩ := hns
  refine wpAny_bind (wpAny_standAt (wpAny_bind (wpAny_holding (get_value (ox := instObj B dx) (od := some od) (bc.X₀.keeps i₁.base.base) ⟨hx, rfl, rfl, hod⟩ bc.ga (v := v) (findObj_own bc.hd (bc.no attr hm) rfl (lookIn_ns hdat ((hfind attr).trans hv))) ?_ ?_))))
  · cases rv <;> rfl
  · refine wpAny_bind (wpAny_letTemporaryGo (wpAny_pure ?_))
    exact ⟨q, σ₁, π₁, rv, i₁, c, d.trans ⟨rfl, rfl, rfl⟩, hP⟩
end

def initSt : Option Stmt := match (Mine.tops[2]? : Option Stmt) with
  | some (Stmt.ClassDef _ _ _ b _ _ _ _ _ _ _) => b.head?
  | _ => none
def iParams : Arguments := match initSt with | some (.FunctionDef _ a _ _ _ _ _ _ _ _) => a | _ => default
def iBody : List Stmt := match initSt with | some (.FunctionDef _ _ b _ _ _ _ _ _ _) => b | _ => default
def iScope : Scope := match initSt with | some (.FunctionDef _ _ _ _ _ _ s _ _ _) => s | _ => default

theorem nsSet_le {M : Model} {A : Around} {E : Value → Shared → Prop} {s : Shared} {a : Addr} {m : Str → Option Value} {k : Nat} {name : Str} {v : Value} {Q : Unit → Shared → Prop} (hn : NsLe s.heap a m k)
    (hQ : ∀ h', NsLe h' a (fun x => if x = name then some v else m x) (k + 1) → Heap.SameBut a s.heap h' → Q () { s with heap := h', toks := s.toks + 1 }) : wpAny M A (nsSet a name v) Q E s := fun Γ p _ => by
  obtain ⟨o, es, ep, ho, hd, hk, hm, hz⟩ := hn
  simp only [nsSet, strHash, Sem.wp_bind', Sem.wp_cmd_ask, Sem.wp_pure', Sem.wp_cmd_mkText]
  rw [Sem.wp_loadPart_of M Γ _ p { s with toks := s.toks + 1 } (o := o) _ ho]
  have hany : es.any (·.refKey) = false := by
    rw [Array.any_eq_false']; intro e he; obtain ⟨n, t, h⟩ := hk e he; simp [DictEntry.refKey, h]
  simp only [hd, aRefKeyMayBeTheName_eq, aRefKeyMayBeTheNameByArray, hany, Bool.and_false, Bool.false_eq_true, if_false, Sem.wp_cmd_updatePart]
  refine ⟨by rw [ho]; rfl, hQ _ ?_ (Heap.SameBut.update ..)⟩
  obtain ⟨c, d, dt, sl⟩ := o
  subst hd
  cases hi : es.findIdx? (·.key.isStr name) with
  | some i =>
    refine ⟨_, _, ep, Heap.get?_update_self _ ho (by simp only [Obj.putName_eq, Obj.putNameByArray, hi]; rfl), by simp only [Obj.putName_eq, Obj.putNameByArray, hi]; rfl, hk.modify _ _, fun x => ?_, by simp only [Array.size_modify]; omega⟩
    show _ = if x = name then some v else m x
    rw [← hm]; exact findBy_modify (fun n v => v.isStr n) Value.isStr_inj es name x v i hi
  | none =>
    refine ⟨_, _, ep + 1, Heap.get?_update_self _ ho (by simp only [Obj.putName_eq, Obj.putNameByArray, hi]; rfl), by simp only [Obj.putName_eq, Obj.putNameByArray, hi]; rfl, hk.push _ _ _ _, fun x => ?_, by simp only [Array.size_push]; omega⟩
    show _ = if x = name then some v else m x
    rw [← hm]
    exact findBy_push (fun n v => v.isStr n) es name x _ _ v (fun y => by
      show (name == y) = decide (y = name)
      by_cases h : y = name
      · subst h; simp
      · have : ¬ name = y := fun e => h e.symm
        simp [h, this]) hi

/-- the store holds one object of the class at most -/
def OneInst (σ : Store) (a : Addr) : Prop := ∀ b K fs, σ b = some (.inst K fs) → b = a

section
variable {C : Ctx} {n : Nat} {kt : List (Str × NameKind)} {X : Cx C n kt} {ρ ρ' : Loc} {σ σ' : Store} {π π' : Priv} {s s' : Shared} {h h' : Heap} {P P' : PV → Store → Prop} {Qn : Loc → Store → Prop} {Qr : PV → Store → Prop}

theorem RO.keepBut {a d : Addr} {o : PObj} (x : RO C h σ π a o) (hd : σ d = some .hid) (ho : ∀ K fs, o ≠ .inst K fs) (hk : ∀ b ob, b ≠ d → h.get? b = some ob → h'.get? b = some ob) (hex : ∃ ob, h'.get? d = some ob)
    (ha : a = d → o = .hid) (hF : ∀ b o, h.get? b = some o → Free σ π b → h'.get? b = some o ∧ Free σ' π' b) : RO C h' σ' π' a o := by
  cases o with
  | list ps =>
    obtain ⟨vs, m, e, r⟩ := x
    exact ⟨vs, m, hk _ _ (fun z => by cases ha z) e, r.mono hF⟩
  | dict kvs => exact DictR.at x fun o e => hk _ _ (fun z => by cases ha z) e
  | inst K fs => exact absurd rfl (ho K fs)
  | hid =>
    obtain ⟨o, e⟩ := x
    by_cases z : a = d
    · subst z; exact hex
    · exact ⟨o, hk _ _ z e⟩

theorem inst_set {a d : Addr} {B : Addr} {fs fs' : List (Str × PV)} {m' : Str → Option Value} (i : Sim X ρ σ π h) (ha : σ a = some (.inst B fs)) (h1 : OneInst σ a) (hx : h.get? a = some (instObj B d)) (hd : σ d = some .hid)
    (hk : ∀ b ob, b ≠ d → h.get? b = some ob → h'.get? b = some ob) (hns : NsLe h' d m' fs'.length) (hf : instFields C h' (upd σ a (.inst B fs')) π fs' m') :
    Sim X ρ (upd σ a (.inst B fs')) π h' ∧ Adv X.own σ π h (upd σ a (.inst B fs')) π h' := by
  have hda : d ≠ a := fun z => by subst z; rw [ha] at hd; cases hd
  have hdπ := (i.base.store d _ hd).2.2
  have hF : ∀ b o, h.get? b = some o → Free σ π b → h'.get? b = some o ∧ Free (upd σ a (.inst B fs')) π b := fun b o e f => by
    have e1 : b ≠ d := fun z => by subst z; rw [f.1] at hd; cases hd
    have e2 : b ≠ a := fun z => by subst z; rw [f.1] at ha; cases ha
    exact ⟨hk b o e1 e, f.upd_of e2⟩
  have hex : ∃ ob, h'.get? d = some ob := by obtain ⟨o, _, _, e, _⟩ := hns; exact ⟨o, e⟩
  have B' : BaseS C (upd σ a (.inst B fs')) π h' := by
    refine ⟨fun b o e => ?_, fun b o e => ?_, fun b e => ?_⟩
    · exact hk b o (fun z => by subst z; rw [(i.base.store b _ hd).2.1] at e; cases e) (i.base.base b o e)
    · by_cases z : b = a
      · subst z
        have e' : o = .inst B fs' := by simpa [upd] using e.symm
        subst e'
        have q := i.base.store b _ ha
        refine ⟨⟨d, m', hk _ _ (Ne.symm hda) hx, ?_, hns, hf⟩, q.2⟩
        show (if d = b then _ else σ d) = _
        rw [if_neg hda]; exact hd
      · have e' : σ b = some o := by simpa [upd, z] using e
        have q := i.base.store b _ e'
        refine ⟨q.1.keepBut hd (fun K fs zz => z (h1 b K fs (zz ▸ e'))) hk hex (fun zz => ?_) hF, q.2⟩
        subst zz
        rw [hd] at e'; cases e'; rfl
    · have q := i.base.priv b e
      obtain ⟨o, ho⟩ := q.2
      exact ⟨q.1, o, hk b o (fun z => hdπ (z ▸ e)) ho⟩
  have np : ∀ b, π b → b ≠ d := fun b e z => hdπ (z ▸ e)
  refine ⟨i.other B' hF (fun _ e => e) (fun o e => hk _ o (np _ i.privL) e) fun n c hc o e => hk c o (np _ (i.cells n c hc).1) e, ?_⟩
  refine ⟨fun b o e hb => ?_, fun b f nf => (nf ?_).elim, fun _ e => e⟩
  · rcases hb with hb | hb
    · exact hk b o (fun z => by subst z; rw [hb.1] at hd; cases hd) e
    · exact hk b o (np b hb.1) e
  · exact f.upd_of fun z => by subst z; rw [f.1] at ha; cases ha

/-- `x.attr = ..` -/
theorem as_attr {o : Expr} {attr : Str} {pos : Pos} {p : PV} {Q : Loc → Store → Prop} {K : Frag} {B fI : Addr} (bc : BodyC C K B fI) (hm : attr ∈ (["name", "arg_count", "locals", "blocks", "spots"] : List Str))
    (h : WpE X o ρ σ fun p₁ σ₁ => ∃ a fs, p₁ = .ref a ∧ σ₁ a = some (.inst B fs) ∧ OneInst σ₁ a ∧ fs.length ≤ 100 ∧ Q ρ (upd σ₁ a (.inst B ((attr, p) :: fs)))) : AsW X (.Attribute o attr pos) p ρ σ Q := fun s π v i rv => by
  refine kas_attr (wpAny_mono (h s π i) (fun ov s₁ x => ?_) fun _ _ x => x)
  obtain ⟨_, σ₁, π₁, r, i₁, c, d, a, fs, rfl, ha, h1, hfl, hQ⟩ := x
  cases r
  have rv₁ := rv.adv c
  obtain ⟨⟨dx, m, hx, hhid, hns, hf⟩, _⟩ := i₁.base.store a _ ha
  obtain ⟨od, es, ep, hod, hdat, hsk, hfind, hz⟩ := id hns
  have I : InstAt s₁.heap a (instObj B dx) B (some od) := ⟨hx, rfl, rfl, hod⟩
  have XK := bc.X₀.keeps i₁.base.base
  have ht : takerIn K B attr = some none := by unfold takerIn; rw [bc.no attr hm]; rfl
  refine set_plain XK I bc.sa (osa_open (s := { s₁ with toks := s₁.toks + 1 }) XK I bc.po ht fun b => ?_)
  obtain ⟨cd, hc, hd'⟩ := any_some bc.hd
  refine wpAny_bind (wpAny_pure (wpAny_bind (wpAny_bind (wpAny_loadPart hx (wpAny_bind (looks_clsIn (M := model C.prog C.w) XK hc _ _ _ _ (fun _ _ e => e) ?_))))))
  rw [hd']
  refine wpAny_pure (a := some dx) (wpAny_bind (wpAny_pure (wpAny_bind ?_)))
  refine nsSet_le (s := { s₁ with toks := s₁.toks + 1 }) hns fun h' hns' hsb => ?_
  obtain ⟨od', es', ep', hod', hdat', _, _, hz'⟩ := id hns'
  refine wpAny_bind (wpAny_lookBehind hod' (by rw [hdat']; exact pastItsLine_dict (Nat.le_trans (Nat.le_trans hz' (show fs.length + 1 ≤ 101 by omega)) (by decide))) ?_)
  refine wpAny_pure ?_
  have hk : ∀ b ob, b ≠ dx → s₁.heap.get? b = some ob → h'.get? b = some ob := fun b ob z e => (hsb.2 b z).trans e
  have hda : ∀ b o, s₁.heap.get? b = some o → Free σ₁ π₁ b → h'.get? b = some o ∧ Free (upd σ₁ a (.inst B ((attr, p) :: fs))) π₁ b := fun b o e f => by
    have e1 : b ≠ dx := fun z => by subst z; rw [f.1] at hhid; cases hhid
    have e2 : b ≠ a := fun z => by subst z; rw [f.1] at ha; cases ha
    exact ⟨hk b o e1 e, f.upd_of e2⟩
  have hf' : instFields C h' (upd σ₁ a (.inst B ((attr, p) :: fs))) π₁ ((attr, p) :: fs) (fun x => if x = attr then some v else m x) := by
    intro y
    rw [List.lookup_cons]
    by_cases z : y = attr
    · subst z
      simp only [beq_self_eq_true]
      exact ⟨v, by simp, rv₁.mono hda⟩
    · rw [show (y == attr) = false from beq_eq_false_iff_ne.mpr z]
      have := hf y
      simp only
      cases q : fs.lookup y with
      | none => rw [q] at this; simp only [z, if_false]; exact this
      | some r => rw [q] at this; obtain ⟨w, h2, h3⟩ := this; exact ⟨w, by rw [if_neg z]; exact h2, h3.mono hda⟩
  obtain ⟨i₂, adv₂⟩ := inst_set i₁ ha h1 hx hhid hk hns' hf'
  exact ⟨ρ, _, π₁, i₂, c.own.trans adv₂, d.trans ⟨rfl, rfl, rfl⟩, hQ⟩

/-- entering a def whose arguments are read with its defaults -/
theorem call_cellsB {R : Result → Shared → Prop} {prog : Program} {w : World} {A : Around} {a : Addr} {o : Obj} {fd : FuncData} {body : List Stmt} {vals : List Value} {binds : List (Str × Value)}
    (hroom : A.depth < recursionLimit) (ho : s.heap.get? a = some o) (hdata : o.data = .func fd) (hlim : s.heap.NoLimit) (hcd : s.heap.CodeRec fd.code fd.qualname)
    (hbody : fd.body = .stmts body) (hbind : BindsTo s fd ⟨vals, []⟩ binds) (hclo : fd.closure = [])
    (hkind : ∀ x ∈ binds, fd.scope.names.lookup x.1 = some .local ∨ (fd.scope.names.lookup x.1 = some .cell ∧ ((cellsFrom (s.heap.objs.size + 1) fd.scope.names []).lookup x.1).isSome = true))
    (h : ∀ s₁, InCallC s (callEnvC fd s.heap.objs.size a).locals (bindL (callEnvC fd s.heap.objs.size a).kindOf binds fun _ => none) (callEnvC fd s.heap.objs.size a).cells
        (bindC (callEnvC fd s.heap.objs.size a).kindOf binds fun _ => none) s₁ →
      wpAny (model prog w) (A.deeper (callEnvC fd s.heap.objs.size a)) (execs body (callEnvC fd s.heap.objs.size a)) (fun f s' => R (.ok (.ret (match f with | .ret v => v | _ => .none))) s')
        (fun e s' => wpAny (model prog w) (A.deeper (callEnvC fd s.heap.objs.size a)) (leaving (callEnvC fd s.heap.objs.size a) e) (fun _ s'' => R (.error e) s'') (fun e' s'' => R (.error e') s'') s') s₁)
    (hco : fd.scope.isCoroutine = false) (hgen : fd.scope.isGenerator = false) (hk : fd.scope.kind = .function) :
    codeAny (model prog w) A (.call (.ref a) ⟨vals, []⟩) R s := by
  refine codeAny_call_function hroom ho hdata hco hgen hbody hcd (hbind _ _ _ _ ?_)
  rw [hclo]
  refine wpAny_newFunctionEnv_cells hk hkind fun env he s' x => ?_
  subst he
  exact ⟨hlim.keeps x.toInCall.keep, codeAny_func (h s' x)⟩
end

theorem def_core {C : Ctx} {n : Nat} {A : Around} {s : Shared} {a : Addr} {o : Obj} {fd : FuncData} {body : List Stmt} {ws vs : List Value} {ps : List PV} {xs : List Str} {σ : Store} {π : Priv} {P : PV → Store → Prop} {R : Result → Shared → Prop}
    (ok : C.Ok) (hh : A.handled = none) (hdep : A.depth + 1 + 2 * n ≤ 900) (hun : A.units + 8 + 16 * n + 400 ≤ 9900) (ho : C.h₀.get? a = some o) (hdat : o.data = .func fd) (hcr : C.h₀.CodeRec fd.code fd.qualname) (hbody : fd.body = .stmts body) (hclo : fd.closure = [])
    (hgl : fd.globals = mainGlobals) (hbu : fd.builtins = builtinsNs) (hbind : BindsTo s fd ⟨vs, []⟩ (xs.zip ws)) (r : RVs C s.heap σ π ws ps) (B : BaseS C σ π s.heap)
    (hlen : xs.length = ps.length) (hnd : xs.Nodup) (hkinds : (xs.all fun y => fd.scope.names.lookup y == some .local || fd.scope.names.lookup y == some .cell) = true)
    (h : ∀ X : Cx C n fd.scope.names, X.mayC → WpS X body (xs.zip ps) σ (fun _ σ' => P .none σ') P)
    (hR : ∀ v s' p σ' π', RV C s'.heap σ' π' v p → BaseS C σ' π' s'.heap → Adv noOwn σ π s.heap σ' π' s'.heap → Same s s' → P p σ' → R (.ok (.ret v)) s')
    (hco : fd.scope.isCoroutine = false) (hgen : fd.scope.isGenerator = false) (hk : fd.scope.kind = .function) : codeAny (model C.prog C.w) A (.call (.ref a) ⟨vs, []⟩) R s := by
  have hlv : ws.length = ps.length := r.length
  have hnd' : ((xs.zip ws).map (·.1)).Nodup := by
    have e : (xs.zip ws).map (·.1) = xs := by
      rw [List.map_fst_zip]; omega
    rw [e]; exact hnd
  have hall : ((xs.zip ws).all fun y => fd.scope.names.lookup y.1 == some .local || fd.scope.names.lookup y.1 == some .cell) = true := by
    rw [List.all_eq_true] at hkinds ⊢
    intro y hy
    exact hkinds y.1 (List.of_mem_zip hy).1
  have hk0 : ∀ b o, C.h₀.get? b = some o → s.heap.get? b = some o := B.base
  refine call_cellsB (fd := fd) (binds := xs.zip ws) (by show A.depth < 1000; omega) (hk0 _ _ ho) hdat (ok.nolimit.keeps hk0) (hcr.keeps hk0) hbody hbind hclo
    (kindsX hall _) (fun s₁ x => ?_) hco hgen hk
  have hL : s.heap.get? s.heap.objs.size = none := get?_size _
  let env := callEnvC fd s.heap.objs.size a
  let N : Addr → Prop := fun b => b = env.locals ∨ ∃ m, env.cells.lookup m = some b
  have hN : ∀ b, N b → s.heap.get? b = none ∧ ∃ ob, s₁.heap.get? b = some ob := by
    rintro b (rfl | ⟨m, hm⟩)
    · obtain ⟨o, _, _, e, _⟩ := x.toInCall.ns
      exact ⟨hL, o, e⟩
    · obtain ⟨o, e, _⟩ := x.cell m b hm
      have hb : s.heap.objs.size < b := x.above m b (mem_of_lookup hm)
      exact ⟨Heap.get?_none_of_le (Nat.le_of_lt hb), o, e⟩
  have B₁ : BaseS C σ (fun b => π b ∨ N b) s₁.heap := B.newPrivs hN x.toInCall.keep
  have hr : ∀ b o, s.heap.get? b = some o → Free σ π b → s₁.heap.get? b = some o ∧ Free σ (fun b => π b ∨ N b) b := fun b o e fr => ⟨x.toInCall.keep b o e, fr.1, fun z => z.elim fr.2 fun w => by rw [(hN b w).1] at e; cases e⟩
  let X : Cx C n fd.scope.names :=
    { A := A.deeper env, env, own := N, ok, lv := ⟨hh, by show A.depth + 1 + 2 * n ≤ 900; omega, by show A.units + 3 + 16 * n + 400 ≤ 9900; omega⟩
      kind := hk, names := fun _ => rfl, globals := hgl, builtins := hbu, ownL := .inl rfl, mayC := True, ownC := fun _ m c _ e => .inr ⟨m, e⟩
      hasC := fun m e => Option.isSome_iff_exists.mp (cellsFrom_some fd.scope.names _ [] (.inl e)), apart := fun _ => x.apart }
  have i : Sim X (xs.zip ps) σ (fun b => π b ∨ N b) s₁.heap := by
    refine ⟨B₁, ⟨_, x.toInCall.ns, fun y p e k => ?_⟩, .inr (.inl rfl), fun a e => .inr e, fun m c e => ⟨.inr (.inr ⟨m, e⟩), ?_, _, x.cell m c e, fun p e' k => ?_⟩⟩
    · obtain ⟨v, hv, q⟩ := RVs.zip_lookup r e
      exact ⟨v, by rw [bindL_get (x := y) k _ _ hnd', hv]; rfl, q.mono hr⟩
    · have hb : s.heap.objs.size < c := x.above m c (mem_of_lookup e)
      exact Nat.ne_of_gt hb
    · obtain ⟨v, hv, q⟩ := RVs.zip_lookup r e'
      have hkm : ¬ env.kindOf m = some .local := by
        show ¬ fd.scope.names.lookup m = some .local
        rcases k with k | k <;> rw [k] <;> decide
      exact ⟨v, by rw [bindC_get (x := m) hkm _ _ hnd', hv]; rfl, q.mono hr⟩
  have sm : Same s s₁ := by obtain ⟨h', tk, e, _⟩ := x.done; subst e; exact ⟨rfl, rfl, rfl⟩
  refine wpAny_mono (h X trivial s₁ _ i) (fun fl s₂ y => ?_) fun _ _ z => z.elim
  obtain ⟨ρ', σ', π', i', c, d, e⟩ := y
  have adv : Adv noOwn σ π s.heap σ' π' s₂.heap := by
    refine ⟨fun b o e hb => ?_, fun b fr nf => ?_, fun b e => c.priv b (.inl e)⟩
    · have e1 := x.toInCall.keep b o e
      have nN : ¬ N b := fun w => by rw [(hN b w).1] at e; cases e
      rcases hb with hb | hb
      · exact c.keep b o e1 (.inl ⟨hb.1, fun z => z.elim hb.2 nN⟩)
      · exact c.keep b o e1 (.inr ⟨.inl hb.1, nN⟩)
    · by_cases q : N b
      · exact (hN b q).1
      · have z := c.fresh b ⟨fr.1, fun z => z.elim fr.2 q⟩ nf
        cases w : s.heap.get? b with
        | none => rfl
        | some o => rw [x.toInCall.keep b o w] at z; cases z
  cases fl with
  | next => exact hR .none s₂ .none σ' π' .none i'.base adv (sm.trans d) e
  | ret v => obtain ⟨p, rp, hp⟩ := e; exact hR v s₂ p σ' π' rp i'.base adv (sm.trans d) hp
  | brk => exact e.elim
  | cont => exact e.elim

/-- what stands for `__init__` -/
def BodyF (C : Ctx) (fI : Addr) : Prop := ∃ oc od T kV doc pm an cdv ct osl oT n,
  C.h₀.get? fI = some ⟨oc, od, .func (fnOf "__init__" "Body.__init__" iParams iBody iScope (.ref T) kV doc pm an cdv ct), osl⟩ ∧ C.h₀.CodeRec cdv "Body.__init__" ∧ C.h₀.get? T = some oT ∧ oT.data = .seq #[.none, .none] n

section
variable {C : Ctx} {n : Nat} {kt : List (Str × NameKind)} {ρ ρ' : Loc} {σ σ' : Store} {π π' : Priv} {s s' : Shared} {h h' : Heap} {P P' : PV → Store → Prop} {Qn : Loc → Store → Prop} {Qr : PV → Store → Prop}

theorem init_walk {X : Cx C n iScope.names} {K : Frag} {B fI x : Addr} (bc : BodyC C K B fI) {nm ac : PV} {ls bs : List PV} (hl : ls.length ≤ 1000) (hx : σ x = some (.inst B [])) (h1 : OneInst σ x)
    (h : ∀ fs σ', σ' x = some (.inst B fs) → fs.lookup ("locals" : Str) = some (.lst ls) → fs.lookup ("blocks" : Str) = some (.lst bs) → P .none σ') :
    WpS X iBody ((["self", "name", "arg_count", "locals_told", "blocks", "spots"] : List Str).zip [.ref x, nm, ac, .lst ls, .lst bs, .none]) σ (fun _ σ' => P .none σ') P := by
  have one : ∀ {σ : Store} {fs : List (Str × PV)}, OneInst σ x → OneInst (upd σ x (.inst B fs)) x := fun h b K fs e => by
    unfold upd at e
    split at e
    · assumption
    · exact h b K fs e
  refine s_cons (x_assign (e_local (by kernel_rfl!) rfl (as_attr bc (by decide) (e_local (by kernel_rfl!) rfl ⟨x, _, rfl, hx, h1, Nat.le_of_ble_eq_true rfl, ?_⟩))))
  refine s_cons (x_assign (e_local (by kernel_rfl!) rfl (as_attr bc (by decide) (e_local (by kernel_rfl!) rfl ⟨x, _, rfl, upd_at, one h1, Nat.le_of_ble_eq_true rfl, ?_⟩))))
  rw [upd_upd]
  refine s_cons (x_assign (e_callT boot_list (by decide) (es_cons (e_local (by kernel_rfl!) rfl (es_nil (f_listL hl (as_attr bc (by decide) (e_local (by kernel_rfl!) rfl ⟨x, _, rfl, upd_at, one h1, Nat.le_of_ble_eq_true rfl, ?_⟩)))))) (by kernel_rfl!)))
  rw [upd_upd]
  refine s_cons (x_assign (e_ifexp (b_cmp (e_local (by kernel_rfl!) rfl (e_none (o_is (truth_bool (br_false rfl (e_local (by kernel_rfl!) rfl (as_attr bc (by decide) (e_local (by kernel_rfl!) rfl ⟨x, _, rfl, upd_at, one h1, Nat.le_of_ble_eq_true rfl, ?_⟩)))))))))))
  rw [upd_upd]
  refine s_cons (x_assign (e_ifexp (b_cmp (e_local (by kernel_rfl!) rfl (e_none (o_is (truth_bool (br_true rfl (e_dict0 (as_attr bc (by decide) (e_local (by kernel_rfl!) rfl ⟨x, _, rfl, upd_at, one h1, Nat.le_of_ble_eq_true rfl, ?_⟩)))))))))))
  rw [upd_upd]
  exact s_nil (h _ _ upd_at (by rfl) (by rfl))

theorem e_body {X : Cx C (n + 1) kt} {args : List Expr} {fp pos : Pos} {K : Frag} {B fI : Addr} (bc : BodyC C K B fI) (bf : BodyF C fI)
    (h : WpEs X pos args ρ σ fun ps σ₁ => ∃ nm ac ls bs, ps = [nm, ac, .lst ls, .lst bs] ∧ ls.length ≤ 1000 ∧ (∀ b K fs, σ₁ b ≠ some (.inst K fs)) ∧ ∀ a fs σ₂, σ₂ a = some (.inst B fs) → fs.lookup ("locals" : Str) = some (.lst ls) → fs.lookup ("blocks" : Str) = some (.lst bs) → P (.ref a) σ₂)
    (hk : kt.lookup ("Body" : Str) = some .globalImplicit) (hs : NoStar args := by first | exact .inl rfl | exact .inr ⟨_, _, rfl, fun _ => rfl⟩)
    (hplain : ∀ env, (backTo pos (starEach args env)).any (·.1) = false := by intro _; rfl) : WpE X (.Call (.Name "Body" fp) args [] pos) ρ σ P := fun s π i => by
  refine wpAny_Call_NameR (Calls.Name_function_global X.kind ((X.names _).trans hk) (Calls.loadGlobal_global (mg := C.mg) (by rw [X.globals]; exact X.ok.g.keeps i.base.base) bc.mg ?_) (by decide +kernel))
  refine callWith_of (P := fun h => K.In h) (by rw [hplain]; rfl) (keeps_K bc.keep) (evalArgs_of hs (wpAny_mono (h s π i) (fun vs s₁ x => ?_) fun _ _ x => x))
  obtain ⟨ps, σ₁, π₁, r, i₁, c, d, nm, ac, ls, bs, rfl, hl, hno, hP⟩ := x
  have XK := bc.X₀.keeps i₁.base.base
  refine ⟨XK, ?_⟩
  rw [List.nil_append]
  obtain ⟨hh, g, dr, tk, os⟩ := s₁
  refine wpAny_call (make_core (makes_of XK bc.mks) (looks_findIn XK bc.ini) (fun self => bind_fn XK self bc.isfn) (.inl rfl) ?_)
  have hf1 := get?_size hh
  have hk1 : ∀ b ob, hh.get? b = some ob → (hh.push emptyDict).get? b = some ob := pushed _
  have hd1 : (hh.push emptyDict).get? hh.objs.size = some emptyDict := Heap.get?_push_size _ rfl
  have B₁ : BaseS C (upd σ₁ hh.objs.size .hid) π₁ (hh.push emptyDict) := i₁.base.newMut hf1 hk1 ⟨_, hd1⟩
  have hf2 : (hh.push emptyDict).get? (hh.objs.size + 1) = none := by have := get?_size (hh.push emptyDict); rwa [Heap.size_push] at this
  have hk2 : ∀ b ob, (hh.push emptyDict).get? b = some ob → ((hh.push emptyDict).push (instObj B hh.objs.size)).get? b = some ob := pushed _
  have hx2 : ((hh.push emptyDict).push (instObj B hh.objs.size)).get? (hh.objs.size + 1) = some (instObj B hh.objs.size) := by
    have := Heap.get?_push_size (hh.push emptyDict) (o := instObj B hh.objs.size) rfl
    rwa [Heap.size_push] at this
  have hne : hh.objs.size ≠ hh.objs.size + 1 := by omega
  have B₂ : BaseS C (upd (upd σ₁ hh.objs.size .hid) (hh.objs.size + 1) (.inst B [])) π₁ ((hh.push emptyDict).push (instObj B hh.objs.size)) := by
    refine B₁.newMut hf2 hk2 ⟨hh.objs.size, fun _ => none, hx2, ?_, ⟨emptyDict, #[], 0, hk2 _ _ hd1, rfl, fun e he => by simp at he, fun name => rfl, Nat.le_refl _⟩, fun y => rfl⟩
    show (if hh.objs.size = hh.objs.size + 1 then _ else upd σ₁ hh.objs.size .hid hh.objs.size) = _
    rw [if_neg hne, upd_at]
  have adv2 : Adv noOwn σ₁ π₁ hh (upd (upd σ₁ hh.objs.size .hid) (hh.objs.size + 1) (.inst B [])) π₁ ((hh.push emptyDict).push (instObj B hh.objs.size)) := (Adv.newMut hf1 hk1).trans (Adv.newMut hf2 hk2)
  obtain ⟨oc, od, T, kV, doc, pm, an, cdv, ct, osl, oT, nT, hfo, hcr, hT, hTd⟩ := bf
  have hlv := X.lv
  obtain ⟨v1, v2, v3, v4, rfl⟩ : ∃ v1 v2 v3 v4, vs = [v1, v2, v3, v4] := by
    have hlen := r.length
    match vs, hlen with
    | [a, b, c, d], _ => exact ⟨a, b, c, d, rfl⟩
  have hk02 : ∀ b o, C.h₀.get? b = some o → ((hh.push emptyDict).push (instObj B hh.objs.size)).get? b = some o := B₂.base
  refine def_core (A := X.A.under (.builtin "type.__call__" ⟨.ref B :: [v1, v2, v3, v4], []⟩)) (n := n) (ws := [.ref (hh.objs.size + 1), v1, v2, v3, v4, .none]) (ps := [.ref (hh.objs.size + 1), nm, ac, .lst ls, .lst bs, .none]) (xs := ["self", "name", "arg_count", "locals_told", "blocks", "spots"])
    (P := fun p σ' => p = .none ∧ ∃ fs, σ' (hh.objs.size + 1) = some (.inst B fs) ∧ fs.lookup ("locals" : Str) = some (.lst ls) ∧ fs.lookup ("blocks" : Str) = some (.lst bs))
    X.ok hlv.1 (by have := hlv.2.1; show X.A.depth + 1 + 1 + 2 * n ≤ 900; omega) (by have := hlv.2.2; show X.A.units + 1 + 8 + 16 * n + 400 ≤ 9900; omega) hfo rfl hcr rfl rfl rfl rfl (BindsTo.of_defaults rfl (hk02 _ _ hT) hTd rfl rfl) ?_ B₂ rfl (by decide) (by kernel_rfl!) (fun Y hm => ?_) ?_ (by kernel_rfl!) (by kernel_rfl!) (by kernel_rfl!)
  · refine .cons (.ref _) ?_
    have r2 := r.adv adv2
    cases r2 with
    | cons a1 r2 =>
    cases r2 with
    | cons a2 r2 =>
    cases r2 with
    | cons a3 r2 =>
    cases r2 with
    | cons a4 r2 => exact .cons a1 (.cons a2 (.cons a3 (.cons a4 (.cons .none .nil))))
  · refine init_walk (P := fun p σ' => p = .none ∧ ∃ fs, σ' (hh.objs.size + 1) = some (.inst B fs) ∧ fs.lookup ("locals" : Str) = some (.lst ls) ∧ fs.lookup ("blocks" : Str) = some (.lst bs)) bc hl upd_at (fun b K fs e => ?_) fun fs σ' e1 e2 e3 => ⟨rfl, fs, e1, e2, e3⟩
    unfold upd at e
    split at e
    · assumption
    · split at e
      · cases e
      · exact absurd e (hno b K fs)
  · rintro v s' p σ' π' rv B' adv sm ⟨rfl, fs, e1, e2, e3⟩
    cases rv
    refine ⟨rfl, ?_⟩
    exact ⟨.ref _, σ', π', .ref _, i₁.call B' (adv2.trans adv), c.trans (adv2.trans adv), d.trans (Same.trans ⟨rfl, rfl, rfl⟩ sm), hP _ fs σ' e1 e2 e3⟩
end

inductive Row where
  | lend (kd : PV) (t l : Int) (q : PV)
  | use (l : Int) (q : PV)
  | prt (l : Int) (q : PV)
def Row.pv : Row → PV
  | .lend kd t l q => .tup [.str "assign", .tup [.int t, .tup []], .tup [.str "ref", .none, kd, .tup [.int l, q]]]
  | .use l q => .tup [.str "assign", .tup [.int l, q], .tup [.str "use", .tup [.str "copy", .tup [.int l, q]]]]
  | .prt l q => .tup [.str "print", .tup [.str "copy", .tup [.int l, q]]]
def Row.lent : Row → Option Int
  | .lend _ _ l _ => some l
  | _ => none
inductive Ty where
  | u8 | bool | i64 | tup | box
def Ty.pv : Ty → PV
  | .u8 => .tup [.str "int", .str "u8"]
  | .bool => .tup [.str "bool"]
  | .i64 => .tup [.str "int", .str "i64"]
  | .tup => .tup [.str "tuple", .tup [.tup [.str "bool"]]]
  | .box => .tup [.str "box", .tup [.str "bool"]]
def Ty.other : Ty → Bool
  | .tup => true
  | .box => true
  | _ => false
def Ty.told (t : Ty) : PV := .tup [t.pv, .bool true, .none]

def addK (m : List (Int × Sc)) (k : Int) : List (Int × Sc) := dset m k (.bool true)
def addO (m : List (Int × Sc)) : Option Int → List (Int × Sc)
  | some k => addK m k
  | none => m
theorem addK_len (m : List (Int × Sc)) (k : Int) : (addK m k).length ≤ m.length + 1 := by
  unfold addK dset
  split <;> simp
theorem addO_len (m : List (Int × Sc)) (k : Option Int) : (addO m k).length ≤ m.length + 1 := by
  cases k with
  | none => exact Nat.le_succ _
  | some k => exact addK_len m k
theorem addK_keys (m : List (Int × Sc)) (k : Int) : (addK m k).map (·.1) = if k ∈ m.map (·.1) then m.map (·.1) else m.map (·.1) ++ [k] := by
  unfold addK dset
  by_cases h : k ∈ m.map (·.1)
  · rw [if_pos h]
    have ha : (m.any fun kv => decide (kv.1 = k)) = true := by
      obtain ⟨kv, h1, h2⟩ := List.mem_map.mp h
      exact List.any_eq_true.mpr ⟨kv, h1, by simpa using h2⟩
    rw [if_pos ha, List.map_map]
    refine List.map_congr_left fun kv _ => ?_
    by_cases z : kv.1 = k <;> simp [z]
  · rw [if_neg h]
    have ha : ¬ (m.any fun kv => decide (kv.1 = k)) = true := fun e => by
      obtain ⟨kv, h1, h2⟩ := List.any_eq_true.mp e
      exact h (List.mem_map.mpr ⟨kv, h1, by simpa using h2⟩)
    rw [if_neg ha]; simp
theorem fold_keys : ∀ (ks : List Int) (m : List (Int × Sc)), (m.map (·.1)).Nodup → ((ks.foldl addK m).map (·.1)).Nodup ∧ ∀ k, k ∈ (ks.foldl addK m).map (·.1) ↔ k ∈ m.map (·.1) ∨ k ∈ ks
  | [], m, hn => ⟨hn, fun k => by simp⟩
  | a :: ks, m, hn => by
    have h1 : ((addK m a).map (·.1)).Nodup := by
      rw [addK_keys]
      split
      · exact hn
      · rename_i h
        rw [List.nodup_append]
        exact ⟨hn, by simp, fun x hx y hy z => by simp at hy; subst hy; exact h (z ▸ hx)⟩
    obtain ⟨h2, h3⟩ := fold_keys ks (addK m a) h1
    refine ⟨h2, fun k => ?_⟩
    rw [List.foldl_cons, h3 k, addK_keys]
    split
    · rename_i h
      constructor
      · rintro (e | e)
        · exact .inl e
        · exact .inr (List.mem_cons_of_mem _ e)
      · rintro (e | e)
        · exact .inl e
        · rcases List.mem_cons.mp e with rfl | e
          · exact .inl h
          · exact .inr e
    · simp only [List.mem_append, List.mem_cons, List.not_mem_nil, or_false]
      constructor
      · rintro ((e | e) | e)
        · exact .inl e
        · exact .inr (.inl e)
        · exact .inr (.inr e)
      · rintro (e | e | e)
        · exact .inl (.inl e)
        · exact .inl (.inr e)
        · exact .inr e
theorem fold_opt {α : Type} (key : α → Option Int) : ∀ (as : List α) (m : List (Int × Sc)), as.foldl (fun m a => addO m (key a)) m = (as.filterMap key).foldl addK m
  | [], m => rfl
  | a :: as, m => by
    rw [List.foldl_cons, fold_opt key as, List.filterMap_cons]
    cases key a <;> rfl

section
variable {C : Ctx} {n : Nat} {kt : List (Str × NameKind)} {X : Cx C n kt} {ρ ρ' : Loc} {σ σ' : Store} {P : PV → Store → Prop} {Qn : Loc → Store → Prop} {Qr : PV → Store → Prop}
theorem forL_fold {α : Type} {t : Expr} {body : List Stmt} {F : Addr} {f : α → PV} {key : α → Option Int} (ok : α → Prop) (good : Loc → Prop)
    (hstep : ∀ a m ρ, ok a → good ρ → m.length ≤ 500 → ∀ Q : Loc → Store → Prop, (∀ ρ', good ρ' → Q ρ' (upd σ F (.dict (addO m (key a))))) → AsW X t (f a) ρ (upd σ F (.dict m)) fun ρ₁ σ₁ => WpS X body ρ₁ σ₁ Q Qr) :
    ∀ (as : List α) (m : List (Int × Sc)) (ρ : Loc), (∀ a ∈ as, ok a) → good ρ → m.length + as.length ≤ 500 → (∀ ρ', good ρ' → Qn ρ' (upd σ F (.dict ((as.filterMap key).foldl addK m)))) →
      ForL X t body Qn Qr (as.map f) ρ (upd σ F (.dict m))
  | [], m, ρ, _, hρ, _, hQ => hQ ρ hρ
  | a :: as, m, ρ, ho, hρ, hl, hQ => by
    simp only [List.length_cons] at hl
    refine hstep a m ρ (ho a (List.mem_cons_self ..)) hρ (by omega) _ fun ρ' hρ' => ?_
    refine forL_fold ok good hstep as _ ρ' (fun b hb => ho b (List.mem_cons_of_mem _ hb)) hρ' (by have := addO_len m (key a); omega) fun ρ'' hρ'' => ?_
    have := hQ ρ'' hρ''
    rw [← fold_opt, List.foldl_cons, fold_opt] at this
    exact this

def tyKey (tys : List Ty) (j : Nat) : Option Int := if (tys[j]?).any Ty.other then some (j : Int) else none
def lentKeys (tys : List Ty) (ra rb : List Row) : List Int := (List.range 6).filterMap (tyKey tys) ++ ra.filterMap Row.lent ++ rb.filterMap Row.lent

theorem c_lent_or_other (g : Prg C) {K : Frag} {B fI b : Addr} (bc : BodyC C K B fI) (hpl : ∃ v, C.mg "PLAIN" = some v ∧ RV C C.h₀ (fun _ => none) (fun _ => False) v (.tup [.str "int", .str "bool"]))
    {fs : List (Str × PV)} {tys : List Ty} {ra rb : List Row} {t1 t2 : PV} (h6 : tys.length = 6) (hra : ra.length ≤ 50) (hrb : rb.length ≤ 50) (hb : σ b = some (.inst B fs)) (hL : fs.lookup ("locals" : Str) = some (.lst (tys.map Ty.told)))
    (hB : fs.lookup ("blocks" : Str) = some (.lst [.lst [.lst (ra.map Row.pv), t1], .lst [.lst (rb.map Row.pv), t2]])) (h : P (.dct ((lentKeys tys ra rb).foldl addK [])) σ) :
    Fn C "lent_or_other" (n + 1) [.ref b] σ P := by
  refine Fn_intro g.ok g.h7 ["body"] (fun pm code doc vs e => ?_) rfl (by decide) (by kernel_rfl!) fun X hm => ?_
  · obtain ⟨a, rfl⟩ := len1 e
    with_unfolding_all rfl
  · refine s_cons (x_assign (e_dict0M fun F hF => as_local' ?_ (by kernel_rfl!)))
    have hbF : ∀ m, upd σ F (.dict m) b = some (.inst B fs) := fun m => by
      unfold upd
      rw [if_neg (fun z => by subst z; rw [hF] at hb; cases hb)]; exact hb
    refine s_cons (x_for (e_callT boot_range (by decide) (es_cons (e_callB PySem.boot_len (by decide) (es_cons (e_attr bc (by decide) (e_local (by kernel_rfl!) rfl ⟨b, fs, _, rfl, hbF _, hL, ?_⟩))) (by kernel_rfl!))) (by kernel_rfl!)))
    refine es_nil (f_lenL (by simp [h6]) ?_)
    rw [show (tys.map Ty.told).length = 6 by simp [h6]]
    refine es_nil (f_range ⟨intsUp 0 6, rfl, ?_⟩)
    refine forL_fold (α := Nat) (f := fun j => PV.int (j : Int)) (key := tyKey tys) (fun j => j < 6) (fun ρ => get ρ "body" = some (.ref b) ∧ get ρ "found" = some (.ref F)) (fun j m ρ hj hρ hl Q hQ => ?_) (List.range 6) [] _ (fun a ha => List.mem_range.mp ha) ⟨rfl, rfl⟩ (by decide) fun ρ₁ hρ₁ => ?_
    · refine as_local' ?_ (by kernel_rfl!)
      have g1 : get ((Str.ofString "local", PV.int (j : Int)) :: ρ) (Str.ofString "body") = some (.ref b) := by rw [get_cons, if_neg (by decide +kernel)]; exact hρ.1
      have g2 : get ((Str.ofString "local", PV.int (j : Int)) :: ρ) (Str.ofString "found") = some (.ref F) := by rw [get_cons, if_neg (by decide +kernel)]; exact hρ.2
      obtain ⟨ty, hty⟩ : ∃ ty, tys[j]? = some ty := ⟨_, List.getElem?_eq_getElem (by omega)⟩
      refine s_cons (x_if (b_cmp (e_sub (e_sub (e_sub (e_attr bc (by decide) (e_local (by kernel_rfl!) g1 ⟨b, fs, _, rfl, hbF _, hL, ?_⟩)))))))
      repeat (walk_at "m")
      refine t_lst (p := ty.told) (Int.natCast_nonneg j) (by rw [Int.toNat_natCast, List.getElem?_map, hty]; rfl) (by simp [h6]) ?_
      have hkey : tyKey tys j = if ty.other then some (j : Int) else none := by unfold tyKey; rw [hty]; rfl
      have hQ' := hQ _ ⟨g1, g2⟩
      rw [hkey] at hQ'
      have store : ∀ (Q' : Loc → Store → Prop), Q' ((Str.ofString "local", PV.int (j : Int)) :: ρ) (upd σ F (.dict (addK m j))) → StoreW X (.ref F) (.int (j : Int)) (.bool true) ((Str.ofString "local", PV.int (j : Int)) :: ρ) (upd σ F (.dict m)) Q' := fun Q' hq => sw_dict (c := .bool true) upd_at rfl (by omega) (by rw [upd_upd]; exact hq)
      cases ty with
      | u8 =>
        unfold Ty.told Ty.pv
        repeat (walk_at "m")
        refine e_global (by kernel_rfl!) hpl ?_
        repeat (walk_at "m")
        exact hQ'
      | bool =>
        unfold Ty.told Ty.pv
        repeat (walk_at "m")
        refine e_global (by kernel_rfl!) hpl ?_
        repeat (walk_at "m")
        exact hQ'
      | i64 =>
        unfold Ty.told Ty.pv
        repeat (walk_at "m")
        refine e_global (by kernel_rfl!) hpl ?_
        repeat (walk_at "m")
        exact hQ'
      | tup =>
        unfold Ty.told Ty.pv
        repeat (walk_at "m")
        refine e_global (by kernel_rfl!) hpl ?_
        repeat (walk_at "m")
        refine as_sub (e_local (by kernel_rfl!) g2 ?_)
        repeat (walk_at "m")
        refine store _ ?_
        repeat (walk_at "m")
        exact hQ'
      | box =>
        unfold Ty.told Ty.pv
        repeat (walk_at "m")
        refine e_global (by kernel_rfl!) hpl ?_
        repeat (walk_at "m")
        refine as_sub (e_local (by kernel_rfl!) g2 ?_)
        repeat (walk_at "m")
        refine store _ ?_
        repeat (walk_at "m")
        exact hQ'
    · -- the blocks
      generalize hm1 : ((List.range 6).filterMap (tyKey tys)).foldl addK [] = m1
      have hm1l : m1.length ≤ 6 := by
        rw [← hm1, ← fold_opt]
        have : ∀ (as : List Nat) (m : List (Int × Sc)), (as.foldl (fun m a => addO m (tyKey tys a)) m).length ≤ m.length + as.length := by
          intro as
          induction as with
          | nil => intro m; exact Nat.le_refl _
          | cons a as ih => intro m; have h1 := ih (addO m (tyKey tys a)); have h2 := addO_len m (tyKey tys a); simp only [List.foldl_cons, List.length_cons]; omega
        exact this (List.range 6) []
      have rowLen : ∀ (as : List Row) (m : List (Int × Sc)), ((as.filterMap Row.lent).foldl addK m).length ≤ m.length + as.length := by
        intro as
        induction as with
        | nil => intro m; exact Nat.le_refl _
        | cons a as ih =>
          intro m
          rw [← fold_opt, List.foldl_cons, fold_opt]
          have h1 := ih (addO m (Row.lent a)); have h2 := addO_len m (Row.lent a); simp only [List.length_cons]; omega
      have inner : ∀ (rs : List Row) (m : List (Int × Sc)) (ρ : Loc) (Q : Loc → Store → Prop), get ρ "body" = some (.ref b) ∧ get ρ "found" = some (.ref F) → get ρ "statements" = some (.lst (rs.map Row.pv)) → m.length + rs.length ≤ 500 →
          (∀ ρ', (get ρ' "body" = some (.ref b) ∧ get ρ' "found" = some (.ref F)) → Q ρ' (upd σ F (.dict ((rs.filterMap Row.lent).foldl addK m)))) →
          WpS X (match (dBody 7)[2]? with | some (Stmt.For _ _ bd _ _) => bd | _ => []) ρ (upd σ F (.dict m)) Q P := by
        intro rs m ρ Q hρ hst hl hQ
        refine s_cons (x_for (e_local (by kernel_rfl!) hst ⟨_, rfl, ?_⟩))
        refine forL_fold (f := Row.pv) (key := Row.lent) (fun _ => True) (fun ρ => get ρ "body" = some (.ref b) ∧ get ρ "found" = some (.ref F)) (fun r m ρ _ hρ hl Q hQ => ?_) rs m ρ (fun _ _ => trivial) hρ hl fun ρ' hρ' => s_nil (hQ ρ' hρ')
        refine as_local' ?_ (by kernel_rfl!)
        have g1 : get ((Str.ofString "statement", r.pv) :: ρ) (Str.ofString "body") = some (.ref b) := by rw [get_cons, if_neg (by decide +kernel)]; exact hρ.1
        have g2 : get ((Str.ofString "statement", r.pv) :: ρ) (Str.ofString "found") = some (.ref F) := by rw [get_cons, if_neg (by decide +kernel)]; exact hρ.2
        have hQ' := hQ _ ⟨g1, g2⟩
        refine s_cons ?_
        cases r with
        | lend kd t l q =>
          unfold Row.pv at hQ' g1 g2 ⊢
          repeat (walk_at "m")
          refine as_sub (e_local (by kernel_rfl!) g2 ?_)
          repeat (walk_at "m")
          refine sw_dict (c := .bool true) upd_at rfl (by omega) ?_
          rw [upd_upd]
          repeat (walk_at "m")
          exact hQ'
        | use l q =>
          unfold Row.pv at hQ' ⊢
          repeat (walk_at "m")
          exact hQ'
        | prt l q =>
          unfold Row.pv at hQ' ⊢
          repeat (walk_at "m")
          exact hQ'
      refine s_cons (x_for (e_attr bc (by decide) (e_local (by kernel_rfl!) hρ₁.1 ⟨b, fs, _, rfl, hbF _, hB, ⟨_, rfl, ?_⟩⟩)))
      refine as_tup2L (as_local' (as_local' ?_ (by kernel_rfl!)) (by kernel_rfl!))
      refine inner ra m1 _ _ ⟨by rw [get_cons, if_neg (by decide +kernel), get_cons, if_neg (by decide +kernel)]; exact hρ₁.1, by rw [get_cons, if_neg (by decide +kernel), get_cons, if_neg (by decide +kernel)]; exact hρ₁.2⟩ rfl (by omega) fun ρ₂ hρ₂ => ?_
      refine as_tup2L (as_local' (as_local' ?_ (by kernel_rfl!)) (by kernel_rfl!))
      refine inner rb _ _ _ ⟨by rw [get_cons, if_neg (by decide +kernel), get_cons, if_neg (by decide +kernel)]; exact hρ₂.1, by rw [get_cons, if_neg (by decide +kernel), get_cons, if_neg (by decide +kernel)]; exact hρ₂.2⟩ rfl (by have := rowLen ra m1; omega) fun ρ₃ hρ₃ => ?_
      refine s_freezeD' "found" hρ₃.2 hF ?_
      refine s_cons (x_ret (e_local (by kernel_rfl!) rfl ?_))
      unfold lentKeys at h
      rw [List.foldl_append, List.foldl_append, hm1] at h
      exact h
end

theorem upd_ne {σ : Store} {a b : Addr} {o : PObj} (h : b ≠ a) : upd σ a o b = σ b := by unfold upd; rw [if_neg h]
theorem era_ne {σ : Store} {a b : Addr} (h : b ≠ a) : era σ a b = σ b := by unfold era; rw [if_neg h]
theorem era_at {σ : Store} {a : Addr} : era σ a a = none := by unfold era; rw [if_pos rfl]

theorem sorted_unique : ∀ {l₁ l₂ : List Int}, l₁.Pairwise (· ≤ ·) → l₂.Pairwise (· < ·) → l₁.Nodup → (∀ k, k ∈ l₁ ↔ k ∈ l₂) → l₁ = l₂
  | [], [], _, _, _, _ => rfl
  | [], b :: l₂, _, _, _, h => by have := (h b).mpr (List.mem_cons_self ..); cases this
  | a :: l₁, [], _, _, _, h => by have := (h a).mp (List.mem_cons_self ..); cases this
  | a :: l₁, b :: l₂, h1, h2, hn, h => by
    rw [List.pairwise_cons] at h1 h2
    rw [List.nodup_cons] at hn
    have hab : a = b := by
      rcases List.mem_cons.mp ((h a).mp (List.mem_cons_self ..)) with e | e
      · exact e
      · rcases List.mem_cons.mp ((h b).mpr (List.mem_cons_self ..)) with e' | e'
        · exact e'.symm
        · have x1 := h2.1 a e
          have x2 := h1.1 b e'
          omega
    subst hab
    rw [sorted_unique h1.2 h2.2 hn.2 fun k => ?_]
    constructor
    · intro hk
      rcases List.mem_cons.mp ((h k).mp (List.mem_cons_of_mem _ hk)) with e | e
      · subst e; exact absurd hk hn.1
      · exact e
    · intro hk
      rcases List.mem_cons.mp ((h k).mpr (List.mem_cons_of_mem _ hk)) with e | e
      · subst e; have := h2.1 k hk; omega
      · exact e
def upto6 (c : Int → Bool) : List Int := (([0, 1, 2, 3, 4, 5] : List Int)).filter c
theorem upto6_eq (c : Int → Bool) : ((List.range 6).filter fun j : Nat => c (j : Int)).map (fun j : Nat => PV.int (j : Int)) = (upto6 c).map PV.int := by
  have e : ([0, 1, 2, 3, 4, 5] : List Int) = (List.range 6).map fun j : Nat => (j : Int) := by rfl
  unfold upto6
  rw [e, List.filter_map, List.map_map]
  rfl
theorem upto6_sorted (c : Int → Bool) : (upto6 c).Pairwise (· < ·) := List.Pairwise.filter _ (by decide)
theorem upto6_mem (c : Int → Bool) (k : Int) : k ∈ upto6 c ↔ (0 ≤ k ∧ k < 6) ∧ c k = true := by
  unfold upto6
  rw [List.mem_filter]
  refine and_congr_left fun _ => ?_
  simp only [List.mem_cons, List.not_mem_nil, or_false]
  omega
theorem tyKeys_eq (tys : List Ty) : ∀ as : List Nat, (as.filter fun j : Nat => (tyKey tys j).isSome).map (fun j : Nat => PV.int (j : Int)) = (as.filterMap (tyKey tys)).map PV.int
  | [] => rfl
  | j :: as => by
    rw [List.filter_cons, List.filterMap_cons]
    cases h : tyKey tys j with
    | none => simpa using tyKeys_eq tys as
    | some k =>
      have hk : k = (j : Int) := by
        unfold tyKey at h
        split at h
        · exact (Option.some.inj h).symm
        · cases h
      subst hk
      simpa using tyKeys_eq tys as

structure LI (S A B L : Addr) (σ₀ : Store) (l0 : List Int) (i : Nat) (σ : Store) (ra rb : List Row) (ex : List Int) : Prop where
  src : Src σ S
  a : σ A = some (.list (ra.map Row.pv))
  b : σ B = some (.list (rb.map Row.pv))
  l : σ L = some (.list ((l0 ++ ex).map PV.int))
  rest : ∀ y, y ≠ S → y ≠ A → y ≠ B → y ≠ L → σ y = σ₀ y
  na : ra.length ≤ i
  nb : rb.length ≤ i
  nl : ex.length ≤ i
  mem : ∀ k, k ∈ ex ↔ k ∈ ra.filterMap Row.lent ∨ k ∈ rb.filterMap Row.lent
  fit : ∀ k ∈ ex, 0 ≤ k ∧ k < 6
structure Apart (S A B L : Addr) : Prop where
  sa : S ≠ A
  sb : S ≠ B
  sl : S ≠ L
  ab : A ≠ B
  al : A ≠ L
  bl : B ≠ L
theorem LI.to {S A B L : Addr} {σ₀ σ σ' : Store} {l0 : List Int} {i : Nat} {ra rb : List Row} {ex : List Int} (ap : Apart S A B L) (x : LI S A B L σ₀ l0 i σ ra rb ex) (t : To S σ σ') : LI S A B L σ₀ l0 i σ' ra rb ex :=
  ⟨t.src, (t.rest A ap.sa.symm).trans x.a, (t.rest B ap.sb.symm).trans x.b, (t.rest L ap.sl.symm).trans x.l, fun y h1 h2 h3 h4 => (t.rest y h1).trans (x.rest y h1 h2 h3 h4), x.na, x.nb, x.nl, x.mem, x.fit⟩
/-- a row that lends nothing -/
theorem LI.addA {S A B L : Addr} {σ₀ σ : Store} {l0 : List Int} {i : Nat} {ra rb : List Row} {ex : List Int} (ap : Apart S A B L) (x : LI S A B L σ₀ l0 i σ ra rb ex) {r : Row} (hr : r.lent = none) :
    LI S A B L σ₀ l0 (i + 1) (upd σ A (.list (ra.map Row.pv ++ [r.pv]))) (ra ++ [r]) rb ex := by
  refine ⟨?_, by rw [upd_at]; simp, (upd_ne ap.ab.symm).trans x.b, (upd_ne ap.al.symm).trans x.l, fun y h1 h2 h3 h4 => (upd_ne h2).trans (x.rest y h1 h2 h3 h4), by simp; exact x.na, Nat.le_succ_of_le x.nb, Nat.le_succ_of_le x.nl, fun k => ?_, x.fit⟩
  · obtain ⟨p, q, hs⟩ := x.src
    exact ⟨p, q, (upd_ne ap.sa).trans hs⟩
  · rw [x.mem k, List.filterMap_append]; simp [hr]
theorem LI.addB {S A B L : Addr} {σ₀ σ : Store} {l0 : List Int} {i : Nat} {ra rb : List Row} {ex : List Int} (ap : Apart S A B L) (x : LI S A B L σ₀ l0 i σ ra rb ex) {r : Row} (hr : r.lent = none) :
    LI S A B L σ₀ l0 (i + 1) (upd σ B (.list (rb.map Row.pv ++ [r.pv]))) ra (rb ++ [r]) ex := by
  refine ⟨?_, (upd_ne ap.ab).trans x.a, by rw [upd_at]; simp, (upd_ne ap.bl.symm).trans x.l, fun y h1 h2 h3 h4 => (upd_ne h3).trans (x.rest y h1 h2 h3 h4), Nat.le_succ_of_le x.na, by simp; exact x.nb, Nat.le_succ_of_le x.nl, fun k => ?_, x.fit⟩
  · obtain ⟨p, q, hs⟩ := x.src
    exact ⟨p, q, (upd_ne ap.sb).trans hs⟩
  · rw [x.mem k, List.filterMap_append]; simp [hr]
theorem LI.addAL {S A B L : Addr} {σ₀ σ : Store} {l0 : List Int} {i : Nat} {ra rb : List Row} {ex : List Int} (ap : Apart S A B L) (x : LI S A B L σ₀ l0 i σ ra rb ex) {r : Row} {l : Int} (hr : r.lent = some l) (hl : 0 ≤ l ∧ l < 6) :
    LI S A B L σ₀ l0 (i + 1) (upd (upd σ A (.list (ra.map Row.pv ++ [r.pv]))) L (.list ((l0 ++ ex).map PV.int ++ [.int l]))) (ra ++ [r]) rb (ex ++ [l]) := by
  refine ⟨?_, by rw [upd_ne ap.al, upd_at]; simp, by rw [upd_ne ap.bl, upd_ne ap.ab.symm]; exact x.b, by rw [upd_at]; simp, fun y h1 h2 h3 h4 => by rw [upd_ne h4, upd_ne h2]; exact x.rest y h1 h2 h3 h4, by simp; exact x.na, Nat.le_succ_of_le x.nb, by simp; exact x.nl, fun k => ?_, fun k hk => ?_⟩
  · obtain ⟨p, q, hs⟩ := x.src
    exact ⟨p, q, by rw [upd_ne ap.sl, upd_ne ap.sa]; exact hs⟩
  · rw [List.mem_append, x.mem k, List.filterMap_append]
    simp only [List.filterMap_cons, hr, List.filterMap_nil, List.mem_append, List.mem_singleton]
    constructor
    · rintro ((e | e) | e)
      · exact .inl (.inl e)
      · exact .inr e
      · exact .inl (.inr e)
    · rintro ((e | e) | e)
      · exact .inl (.inl e)
      · exact .inr e
      · exact .inl (.inr e)
  · rcases List.mem_append.mp hk with e | e
    · exact x.fit k e
    · rw [List.mem_singleton.mp e]; exact hl
theorem LI.addBL {S A B L : Addr} {σ₀ σ : Store} {l0 : List Int} {i : Nat} {ra rb : List Row} {ex : List Int} (ap : Apart S A B L) (x : LI S A B L σ₀ l0 i σ ra rb ex) {r : Row} {l : Int} (hr : r.lent = some l) (hl : 0 ≤ l ∧ l < 6) :
    LI S A B L σ₀ l0 (i + 1) (upd (upd σ B (.list (rb.map Row.pv ++ [r.pv]))) L (.list ((l0 ++ ex).map PV.int ++ [.int l]))) ra (rb ++ [r]) (ex ++ [l]) := by
  refine ⟨?_, by rw [upd_ne ap.al, upd_ne ap.ab]; exact x.a, by rw [upd_ne ap.bl, upd_at]; simp, by rw [upd_at]; simp, fun y h1 h2 h3 h4 => by rw [upd_ne h4, upd_ne h3]; exact x.rest y h1 h2 h3 h4, Nat.le_succ_of_le x.na, by simp; exact x.nb, by simp; exact x.nl, fun k => ?_, fun k hk => ?_⟩
  · obtain ⟨p, q, hs⟩ := x.src
    exact ⟨p, q, by rw [upd_ne ap.sl, upd_ne ap.sb]; exact hs⟩
  · rw [List.mem_append, x.mem k, List.filterMap_append]
    simp only [List.filterMap_cons, hr, List.filterMap_nil, List.mem_append, List.mem_singleton]
    constructor
    · rintro ((e | e) | e)
      · exact .inl e
      · exact .inr (.inl e)
      · exact .inr (.inr e)
    · rintro (e | e | e)
      · exact .inl (.inl e)
      · exact .inl (.inr e)
      · exact .inr e
  · rcases List.mem_append.mp hk with e | e
    · exact x.fit k e
    · rw [List.mem_singleton.mp e]; exact hl

/-- what the loop keeps of the names -/
structure LG (S A B L : Addr) (tys : List Ty) (ρ : Loc) : Prop where
  src : get ρ "source" = some (.ref S)
  lots : get ρ "lots" = some (.lst [.ref A, .ref B])
  lent : get ρ "lent" = some (.ref L)
  types : get ρ "types" = some (.lst (tys.map Ty.pv))
theorem LG.cons {S A B L : Addr} {tys : List Ty} {ρ : Loc} (x : LG S A B L tys ρ) {y : Str} {p : PV} (h1 : (y == ("source" : Str)) = false) (h2 : (y == ("lots" : Str)) = false) (h3 : (y == ("lent" : Str)) = false) (h4 : (y == ("types" : Str)) = false) : LG S A B L tys ((y, p) :: ρ) := by
  have ne : ∀ {z : Str}, (y == z) = false → ¬ z = y := fun h e => by subst e; simp at h
  exact ⟨by rw [get_cons, if_neg (ne h1)]; exact x.src, by rw [get_cons, if_neg (ne h2)]; exact x.lots, by rw [get_cons, if_neg (ne h3)]; exact x.lent, by rw [get_cons, if_neg (ne h4)]; exact x.types⟩

section
variable {C : Ctx} {n : Nat} {kt : List (Str × NameKind)} {X : Cx C n kt} {ρ ρ' : Loc} {σ σ' : Store} {P : PV → Store → Prop} {Qn : Loc → Store → Prop} {Qr : PV → Store → Prop}
theorem forL_invN {t : Expr} {body : List Stmt} {N : Nat} (I : Nat → Loc → Store → Prop) : ∀ {ps : List PV} {i : Nat} {ρ : Loc} {σ : Store}, (∀ p ∈ ps, ∀ i ρ σ, i < N → I i ρ σ → AsW X t p ρ σ fun ρ₁ σ₁ => WpS X body ρ₁ σ₁ (I (i + 1)) Qr) → i + ps.length ≤ N → I i ρ σ →
    (∀ ρ' σ', I (i + ps.length) ρ' σ' → Qn ρ' σ') → ForL X t body Qn Qr ps ρ σ
  | [], i, ρ, σ, _, _, hi, hQ => hQ ρ σ hi
  | p :: ps, i, ρ, σ, h, hN, hi, hQ => by
    simp only [List.length_cons] at hN
    have key : ∀ {ρ₁ : Loc} {σ₁ : Store}, WpS X body ρ₁ σ₁ (I (i + 1)) Qr → WpS X body ρ₁ σ₁ (fun ρ₂ σ₂ => ForL X t body Qn Qr ps ρ₂ σ₂) Qr := fun {ρ₁ σ₁} w s π j => by
      refine wpAny_mono (w s π j) (fun f s₁ y => ?_) fun _ _ x => x
      obtain ⟨ρ', σ', π', a, b, c, d⟩ := y
      refine ⟨ρ', σ', π', a, b, c, ?_⟩
      cases f with
      | next =>
        refine forL_invN I (i := i + 1) (fun b hb => h b (List.mem_cons_of_mem _ hb)) (by omega) d fun ρ' σ' k => hQ ρ' σ' ?_
        have e : i + (p :: ps).length = i + 1 + ps.length := by simp only [List.length_cons]; omega
        rw [e]; exact k
      | ret v => exact d
      | brk => exact d
      | cont => exact d
    intro s π v j r
    refine wpAny_mono (h p (List.mem_cons_self ..) i ρ σ (by omega) hi s π v j r) (fun _ s₁ y => ?_) fun _ _ x => x
    obtain ⟨ρ', σ', π', a, b, c, d⟩ := y
    exact ⟨ρ', σ', π', a, b, c, key d⟩
theorem s_freeze2 {ss : List Stmt} {x : Str} {A B : Addr} {as bs : List PV} (hx : get ρ x = some (.lst [.ref A, .ref B])) (ha : σ A = some (.list as)) (hb : σ B = some (.list bs)) (hAB : B ≠ A)
    (h : WpS X ss ((x, .lst [.lst as, .lst bs]) :: ρ) (era (era σ A) B) Qn Qr) : WpS X ss ρ σ Qn Qr := fun s π i => by
  have hb' : era σ A B = some (.list bs) := (era_ne hAB).trans hb
  have i₁ := i.era ha (by simp)
  have i₂ := i₁.era hb' (by simp)
  have fa : RV C s.heap (era (era σ A) B) π (.ref A) (.lst as) := (frozenL i.base ha).mono era_free
  have fb : RV C s.heap (era (era σ A) B) π (.ref B) (.lst bs) := frozenL i₁.base hb'
  have i₃ : Sim X ((x, .lst [.lst as, .lst bs]) :: ρ) (era (era σ A) B) π s.heap := i₂.reread hx fun v r => by
    cases r with
    | lst hl hf rs =>
      cases rs with
      | cons r1 rs =>
        cases rs with
        | cons r2 rs =>
          cases rs; cases r1; cases r2
          exact .lst hl hf (.cons fa (.cons fb .nil))
  exact wpAny_mono (h s π i₃) (fun f s₁ y => y.after (s₁ := s) (Adv.era.trans Adv.era) (Same.refl _)) fun _ _ x => x
theorem s_freezeL' {ss : List Stmt} (x : Str) {a : Addr} {ps : List PV} (hx : get ρ x = some (.ref a)) (ha : σ a = some (.list ps)) (h : WpS X ss ((x, .lst ps) :: ρ) (era σ a) Qn Qr) : WpS X ss ρ σ Qn Qr := by
  refine s_freezeL hx ha ?_
  unfold sub
  rw [if_pos rfl]
  exact h
end
section
variable {C : Ctx} {σ : Store} {P : PV → Store → Prop}
set_option maxHeartbeats 8000000 in
theorem c_lent_right {n : Nat} (g : Prg C) {K : Frag} {Bc fI : Addr} (bc : BodyC C K Bc fI) (bf : BodyF C fI) (hpl : ∃ v, C.mg "PLAIN" = some v ∧ RV C C.h₀ (fun _ => none) (fun _ => False) v (.tup [.str "int", .str "bool"]))
    {S : Addr} (hs : Src σ S) (hsi : Simple σ) (h : ∀ σ', P (.bool true) σ') : Fn C "_law_lent_right" (n + 5) [.ref S] σ P := by
  refine Fn_intro g.ok g.h27 ["source"] (fun pm code doc vs e => ?_) rfl (by decide) (by kernel_rfl!) fun X hm => ?_
  · obtain ⟨a, rfl⟩ := len1 e
    with_unfolding_all rfl
  · -- some
    refine s_cons (x_assign (e_list (es_cons (e_call g.h19 (by kernel_rfl!) (es_nil (c_u8 g.ok g.h19 ?_))))))
    repeat (walk_at "m")
    refine as_cell' hm ?_ (by kernel_rfl!)
    -- types
    refine s_cons (x_assign (e_comp (e_callT boot_range (by decide) ?_ (by kernel_rfl!))))
    repeat (walk_at "m")
    refine f_range ⟨_, rfl, Nat.le_of_ble_eq_true rfl, fun Y => ?_⟩
    refine compL_inv (fun i acc σ' => To S σ σ' ∧ ∃ tys : List Ty, tys.length = i ∧ acc = tys.map Ty.pv) (i := 0) (fun p hp i acc σ' hI P hP => ?_) ⟨To.refl hs, [], rfl, rfl⟩ fun acc σ₁ hI => ?_
    · obtain ⟨t, tys, hlen, rfl⟩ := hI
      refine e_call g.h18 (by kernel_rfl!) ?_
      repeat (walk_at "m")
      refine c_one g.ok g.h17 g.h18 t.src (by simp) (Nat.le_of_ble_eq_true rfl) fun q hq σ₂ t₂ => ?_
      obtain ⟨ty, rfl⟩ : ∃ ty : Ty, q = ty.pv := by
        simp only [List.mem_cons, List.not_mem_nil, or_false] at hq
        rcases hq with rfl | rfl | rfl | rfl | rfl
        · exact ⟨.u8, rfl⟩
        · exact ⟨.bool, rfl⟩
        · exact ⟨.i64, rfl⟩
        · exact ⟨.tup, rfl⟩
        · exact ⟨.box, rfl⟩
      exact hP _ _ ⟨t.trans t₂, tys ++ [ty], by simp [hlen], by simp⟩
    obtain ⟨t1, tys, h6, rfl⟩ := hI
    rw [intsUp_length] at h6
    have h6 : tys.length = 6 := h6
    refine as_cell' hm ?_ (by kernel_rfl!)
    -- lots, lent
    refine s_cons (x_assign (e_tuple (es_cons (e_list (es_cons (e_listM (es_nil ⟨by decide, fun A hA => es_cons (e_listM (es_nil ⟨by decide, fun B hB => es_nil ⟨Nat.le_of_ble_eq_true rfl, ?_⟩⟩))⟩)))))))
    refine es_cons (e_compM (e_callT boot_range (by decide) ?_ (by kernel_rfl!)))
    repeat (walk_at "m")
    refine f_range ⟨_, rfl, Nat.le_of_ble_eq_true rfl, fun Y => ?_⟩
    refine compL_filt (as := List.range 6) (f := fun j : Nat => PV.int (j : Int)) (g := fun j : Nat => PV.int (j : Int)) (c := fun j : Nat => (tyKey tys j).isSome) (fun j hj P hP => ?_) (fun j hj hc P hP => ?_) ?_
    · have hj6 := List.mem_range.mp hj
      obtain ⟨ty, hty⟩ : ∃ ty, tys[j]? = some ty := ⟨_, List.getElem?_eq_getElem (by omega)⟩
      have hkey : tyKey tys j = if ty.other then some (j : Int) else none := by unfold tyKey; rw [hty]; rfl
      rw [hkey] at hP
      refine b_cmp (e_sub (e_sub (e_cell (by kernel_rfl!) rfl (e_local (by kernel_rfl!) rfl ?_))))
      refine t_lst (p := ty.pv) (Int.natCast_nonneg j) (by rw [Int.toNat_natCast, List.getElem?_map, hty]; rfl) (by simp [h6]) ?_
      cases ty <;> unfold Ty.pv <;> (repeat (walk_at "m")) <;> exact hP
    · repeat (walk_at "m")
      exact hP
    rw [List.nil_append, tyKeys_eq]
    generalize hl0 : (List.range 6).filterMap (tyKey tys) = l0
    have hl0f : ∀ k ∈ l0, 0 ≤ k ∧ k < 6 := by
      intro k hk
      rw [← hl0] at hk
      obtain ⟨j, hj, hjk⟩ := List.mem_filterMap.mp hk
      have := List.mem_range.mp hj
      unfold tyKey at hjk
      split at hjk
      · have := Option.some.inj hjk; omega
      · cases hjk
    have hl0n : l0.length ≤ 6 := by rw [← hl0]; exact Nat.le_trans (List.length_filterMap_le ..) (by simp)
    intro L hL
    refine es_nil ⟨Nat.le_of_ble_eq_true rfl, ?_⟩
    refine as_tup2 (as_local' (as_cell' hm ?_ (by kernel_rfl!)) (by kernel_rfl!))
    have hBA : B ≠ A := fun z => by subst z; rw [upd_at] at hB; cases hB
    have hB1 : σ₁ B = none := by rwa [upd_ne hBA] at hB
    have hLB : L ≠ B := fun z => by subst z; rw [upd_at] at hL; cases hL
    have hLA : L ≠ A := fun z => by subst z; rw [upd_ne hLB, upd_at] at hL; cases hL
    have hL1 : σ₁ L = none := by rwa [upd_ne hLB, upd_ne hLA] at hL
    have neS : ∀ {y}, σ₁ y = none → S ≠ y := fun e z => by subst z; obtain ⟨p, q, hq⟩ := t1.src; rw [hq] at e; cases e
    have ap : Apart S A B L := ⟨neS hA, neS hB1, neS hL1, hBA.symm, hLA.symm, hLB.symm⟩
    have li0 : LI S A B L σ₁ l0 0 (upd (upd (upd σ₁ A (.list [])) B (.list [])) L (.list (l0.map PV.int))) [] [] [] := by
      refine ⟨?_, by rw [upd_ne ap.al, upd_ne ap.ab, upd_at]; rfl, by rw [upd_ne ap.bl, upd_at]; rfl, by rw [upd_at]; simp, fun y h1 h2 h3 h4 => by rw [upd_ne h4, upd_ne h3, upd_ne h2], Nat.le_refl _, Nat.le_refl _, Nat.le_refl _, fun k => by simp, fun k hk => by cases hk⟩
      obtain ⟨p, q, hq⟩ := t1.src
      exact ⟨p, q, by rw [upd_ne ap.sl, upd_ne ap.sb, upd_ne ap.sa]; exact hq⟩
    -- the loop
    refine s_cons (x_for (e_callT boot_range (by decide) (es_cons (e_call g.h17 (by kernel_rfl!) ?_)) (by kernel_rfl!)))
    repeat (walk_at "m")
    refine c_take g.ok g.h17 li0.src (by decide) (by decide) fun k σ₂ t2 k0 k9 => ?_
    have hk : 0 ≤ k ∧ k ≤ 1000 := ⟨k0, by omega⟩
    refine es_nil (f_range ⟨intsUp 0 k.toNat, by simp [itemsOf, hk], ?_⟩)
    refine forL_invN (N := 9) (fun i ρ σ' => LG S A B L tys ρ ∧ ∃ ra rb ex, LI S A B L σ₁ l0 i σ' ra rb ex) (i := 0) (fun p hp i ρ σ' hi hI => ?_) (by rw [intsUp_length]; omega) ⟨⟨rfl, rfl, rfl, rfl⟩, [], [], [], li0.to ap t2⟩ fun ρ' σ₃ hI => ?_
    · obtain ⟨lg0, ra, rb, ex, li⟩ := hI
      refine as_local' ?_ (by kernel_rfl!)
      have lg := lg0.cons (y := "turn") (p := p) (by decide +kernel) (by decide +kernel) (by decide +kernel) (by decide +kernel)
      -- place
      refine s_cons (x_assign (e_tuple (es_cons (e_call g.h17 (by kernel_rfl!) (es_cons (e_cell (by kernel_rfl!) lg.src (es_cons (e_int (es_nil (c_take g.ok g.h17 li.src (by decide) (by decide) fun l σa ta l0' l6 => ?_))))))))))
      refine es_cons (e_call g.h18 (by kernel_rfl!) (es_cons (e_cell (by kernel_rfl!) lg.src ?_)))
      repeat (walk_at "m")
      refine c_one g.ok g.h17 g.h18 ta.src (by simp) (Nat.le_of_ble_eq_true rfl) fun q hq σb tb => ?_
      refine es_nil ⟨Nat.le_of_ble_eq_true rfl, as_local' ?_ (by kernel_rfl!)⟩
      have lg1 := lg.cons (y := "place") (p := .tup [.int l, q]) (by decide +kernel) (by decide +kernel) (by decide +kernel) (by decide +kernel)
      -- way
      refine s_cons (x_assign (e_call g.h17 (by kernel_rfl!) (es_cons (e_cell (by kernel_rfl!) lg1.src (es_cons (e_int (es_nil (c_take g.ok g.h17 tb.src (by decide) (by decide) fun w σc tc w0 w3 => ?_))))))))
      refine as_local' ?_ (by kernel_rfl!)
      have lg2 := lg1.cons (y := "way") (p := .int w) (by decide +kernel) (by decide +kernel) (by decide +kernel) (by decide +kernel)
      -- kind
      refine s_cons (x_assign (e_call g.h18 (by kernel_rfl!) (es_cons (e_cell (by kernel_rfl!) lg2.src ?_))))
      repeat (walk_at "m")
      refine c_one g.ok g.h17 g.h18 tc.src (by simp) (Nat.le_of_ble_eq_true rfl) fun kd hkd σd td => ?_
      refine as_local' ?_ (by kernel_rfl!)
      have lg3 := lg2.cons (y := "kind") (p := kd) (by decide +kernel) (by decide +kernel) (by decide +kernel) (by decide +kernel)
      -- lend
      refine s_cons (x_assign (e_tuple (es_cons (e_str (es_cons (e_tuple (es_cons (e_call g.h17 (by kernel_rfl!) (es_cons (e_cell (by kernel_rfl!) lg3.src (es_cons (e_int (es_nil (c_take g.ok g.h17 td.src (by decide) (by decide) fun t σe te t0 t6 => ?_))))))))))))))
      repeat (walk_at "m")
      have lg4 := lg3.cons (y := "lend") (p := (Row.lend kd t l q).pv) (by decide +kernel) (by decide +kernel) (by decide +kernel) (by decide +kernel)
      -- row
      obtain ⟨r, hr, hr1, hr2⟩ : ∃ r, ([Row.lend kd t l q, .use l q, .prt l q])[w.toNat]? = some r ∧ (w = 0 → r.lent = some l) ∧ (w ≠ 0 → r.lent = none) := by
        have hw : w = 0 ∨ w = 1 ∨ w = 2 := by omega
        rcases hw with rfl | rfl | rfl
        · exact ⟨_, rfl, fun _ => rfl, fun h => absurd rfl h⟩
        · exact ⟨_, rfl, fun h => absurd h (by decide), fun _ => rfl⟩
        · exact ⟨_, rfl, fun h => absurd h (by decide), fun _ => rfl⟩
      refine t_lst (p := r.pv) w0 (by
        have z : (([Row.lend kd t l q, .use l q, .prt l q]).map Row.pv)[w.toNat]? = some r.pv := by rw [List.getElem?_map, hr]; rfl
        exact z) (Nat.le_of_ble_eq_true rfl) ?_
      refine as_local' ?_ (by kernel_rfl!)
      have lg5 := lg4.cons (y := "row") (p := r.pv) (by decide +kernel) (by decide +kernel) (by decide +kernel) (by decide +kernel)
      have li5 := ((((li.to ap ta).to ap tb).to ap tc).to ap td).to ap te
      -- append
      refine s_cons (x_expr (e_meth "list" "list.append" ?_ PySem.F.plainAttrs_list slot_list_append PySem.F.type_list_append))
      refine e_sub (e_local (by kernel_rfl!) lg5.lots (e_call g.h17 (by kernel_rfl!) (es_cons (e_cell (by kernel_rfl!) lg5.src (es_cons (e_int (es_nil (c_take g.ok g.h17 li5.src (by decide) (by decide) fun d σf tf d0 d2 => ?_))))))))
      have li6 := li5.to ap tf
      have hd : d = 0 ∨ d = 1 := by omega
      have hna := li6.na
      have hnb := li6.nb
      have hnl := li6.nl
      rcases hd with rfl | rfl
      · refine t_lst (p := .ref A) (by decide) rfl (Nat.le_of_ble_eq_true rfl) ⟨A, _, rfl, li6.a, rfl, es_cons (e_local (by kernel_rfl!) rfl (es_nil (m_append li6.a (by simp; omega) ⟨trivial, ?_⟩)))⟩
        refine s_cons (x_if (b_cmp (e_local (by kernel_rfl!) rfl (e_int (o_eq (d := 1) (Pl.int _ _) (Pl.int _ _) (truth_bool ⟨fun hc => ?_, fun hc => ?_⟩))))))
        · have hw : w = 0 := by have z : (w == 0) = true := hc; simpa using z
          refine s_cons (x_expr (e_meth "list" "list.append" ?_ PySem.F.plainAttrs_list slot_list_append PySem.F.type_list_append))
          refine e_cell (by kernel_rfl!) lg5.lent ⟨L, _, rfl, (upd_ne ap.al.symm).trans li6.l, rfl, ?_⟩
          repeat (walk_at "m")
          refine m_append ((upd_ne ap.al.symm).trans li6.l) (by simp; omega) ⟨trivial, s_nil (s_nil ⟨lg5, _, _, _, li6.addAL ap (hr1 hw) ⟨l0', l6⟩⟩)⟩
        · have hw : w ≠ 0 := by have z : (w == 0) = false := hc; simpa using z
          exact s_nil (s_nil ⟨lg5, _, _, _, li6.addA ap (hr2 hw)⟩)
      · refine t_lst (p := .ref B) (by decide) rfl (Nat.le_of_ble_eq_true rfl) ⟨B, _, rfl, li6.b, rfl, es_cons (e_local (by kernel_rfl!) rfl (es_nil (m_append li6.b (by simp; omega) ⟨trivial, ?_⟩)))⟩
        refine s_cons (x_if (b_cmp (e_local (by kernel_rfl!) rfl (e_int (o_eq (d := 1) (Pl.int _ _) (Pl.int _ _) (truth_bool ⟨fun hc => ?_, fun hc => ?_⟩))))))
        · have hw : w = 0 := by have z : (w == 0) = true := hc; simpa using z
          refine s_cons (x_expr (e_meth "list" "list.append" ?_ PySem.F.plainAttrs_list slot_list_append PySem.F.type_list_append))
          refine e_cell (by kernel_rfl!) lg5.lent ⟨L, _, rfl, (upd_ne ap.bl.symm).trans li6.l, rfl, ?_⟩
          repeat (walk_at "m")
          refine m_append ((upd_ne ap.bl.symm).trans li6.l) (by simp; omega) ⟨trivial, s_nil (s_nil ⟨lg5, _, _, _, li6.addBL ap (hr1 hw) ⟨l0', l6⟩⟩)⟩
        · have hw : w ≠ 0 := by have z : (w == 0) = false := hc; simpa using z
          exact s_nil (s_nil ⟨lg5, _, _, _, li6.addB ap (hr2 hw)⟩)
    · obtain ⟨lg, ra, rb, ex, li⟩ := hI
      rw [intsUp_length] at li
      have hna := li.na
      have hnb := li.nb
      have hnl := li.nl
      refine s_freeze2 lg.lots li.a li.b ap.ab.symm ?_
      have lgt : get ((Str.ofString "lots", PV.lst [.lst (ra.map Row.pv), .lst (rb.map Row.pv)]) :: ρ') (Str.ofString "lent") = some (.ref L) := by rw [get_cons, if_neg (by decide +kernel)]; exact lg.lent
      have lty : get ((Str.ofString "lots", PV.lst [.lst (ra.map Row.pv), .lst (rb.map Row.pv)]) :: ρ') (Str.ofString "types") = some (.lst (tys.map Ty.pv)) := by rw [get_cons, if_neg (by decide +kernel)]; exact lg.types
      refine s_freezeL' "lent" lgt (by rw [era_ne ap.bl.symm, era_ne ap.al.symm]; exact li.l) ?_
      have hstore : ∀ y o, era (era (era σ₃ A) B) L y = some o → match o with | .inst _ _ => False | _ => True := by
        intro y o e
        by_cases z3 : y = L
        · subst z3; rw [era_at] at e; cases e
        rw [era_ne z3] at e
        by_cases z2 : y = B
        · subst z2; rw [era_at] at e; cases e
        rw [era_ne z2] at e
        by_cases z1 : y = A
        · subst z1; rw [era_at] at e; cases e
        rw [era_ne z1] at e
        by_cases z0 : y = S
        · subst z0; obtain ⟨p, q, hq⟩ := li.src; rw [hq] at e; cases e; trivial
        rw [li.rest y z0 z1 z2 z3, t1.rest y z0] at e
        have := hsi y o e
        cases o with
        | inst => exact this
        | list => trivial
        | dict => trivial
        | hid => trivial
      -- body
      refine s_cons (x_assign (e_body bc bf (es_cons (e_str (es_cons (e_int (es_cons (e_comp ?_)))))) (by kernel_rfl!)))
      refine e_cell (by kernel_rfl!) (by rw [get_cons, if_neg (by decide +kernel)]; exact lty) ⟨_, rfl, by simp [h6], fun Y => ?_⟩
      refine compL_map (as := tys) (g := Ty.told) (fun ty hty P hP => ?_) ?_
      · repeat (walk_at "m")
        exact hP
      rw [List.nil_append]
      repeat (walk_at "m")
      refine ⟨_, _, _, _, rfl, by simp [h6], fun b K fs e => (hstore b _ e).elim, fun a fs σ₅ e1 e2 e3 => ?_⟩
      refine as_local' ?_ (by kernel_rfl!)
      refine s_cons (x_ret (e_cmp (e_callB boot_sorted (by decide) (es_cons (e_call g.h7 (by kernel_rfl!) (es_cons (e_local (by kernel_rfl!) rfl (es_nil ?_))))) (by kernel_rfl!))))
      refine c_lent_or_other g bc hpl h6 (by omega) (by omega) e1 e2 e3 ?_
      have hkeys := fold_keys (lentKeys tys ra rb) [] (by simp)
      have hlen : ((lentKeys tys ra rb).foldl addK []).length < 64 := by
        have hl : ∀ (ks : List Int) (m : List (Int × Sc)), (ks.foldl addK m).length ≤ m.length + ks.length := by
          intro ks
          induction ks with
          | nil => intro m; exact Nat.le_refl _
          | cons a ks ih => intro m; have h1 := ih (addK m a); have h2 := addK_len m a; simp only [List.foldl_cons, List.length_cons]; omega
        have h1 := hl (lentKeys tys ra rb) []
        have h2 : (lentKeys tys ra rb).length ≤ 6 + ra.length + rb.length := by
          unfold lentKeys
          rw [List.length_append, List.length_append]
          have a1 := List.length_filterMap_le (tyKey tys) (List.range 6)
          have a2 := List.length_filterMap_le Row.lent ra
          have a3 := List.length_filterMap_le Row.lent rb
          simp only [List.length_range] at a1
          omega
        simp only [List.length_nil] at h1
        omega
      refine es_nil (f_sorted hlen fun ns hperm hsort => ?_)
      refine e_comp (e_callT boot_range (by decide) ?_ (by kernel_rfl!))
      repeat (walk_at "m")
      refine f_range ⟨_, rfl, Nat.le_of_ble_eq_true rfl, fun Y => ?_⟩
      refine compL_filt (as := List.range 6) (f := fun j : Nat => PV.int (j : Int)) (g := fun j : Nat => PV.int (j : Int)) (c := fun j : Nat => (fun k : Int => decide (k ∈ l0 ++ ex)) (j : Int)) (fun j hj P hP => ?_) (fun j hj hc P hP => ?_) ?_
      · refine b_cmp (e_local (by kernel_rfl!) rfl (e_cell (by kernel_rfl!) rfl (o_inL (pls_ints 8 (l0 ++ ex)) (Pl.int _ _) (truth_bool ?_))))
        rw [any_int]
        exact hP
      · repeat (walk_at "m")
        exact hP
      rw [List.nil_append, upto6_eq fun k => decide (k ∈ l0 ++ ex)]
      have hmem : ∀ k, k ∈ ns ↔ k ∈ upto6 fun k => decide (k ∈ l0 ++ ex) := by
        intro k
        rw [hperm.mem_iff, hkeys.2 k, upto6_mem]
        unfold lentKeys
        rw [hl0]
        simp only [List.map_nil, List.not_mem_nil, false_or, List.mem_append, decide_eq_true_eq]
        rw [li.mem k]
        constructor
        · rintro ((e | e) | e)
          · exact ⟨hl0f k e, .inl e⟩
          · exact ⟨li.fit k ((li.mem k).mpr (.inl e)), .inr (.inl e)⟩
          · exact ⟨li.fit k ((li.mem k).mpr (.inr e)), .inr (.inr e)⟩
        · rintro ⟨_, e | e | e⟩
          · exact .inl (.inl e)
          · exact .inl (.inr e)
          · exact .inr e
      rw [sorted_unique hsort (upto6_sorted _) (hperm.nodup_iff.mpr hkeys.1) hmem]
      exact eq_self (d := 9) (Pl.lst (pls_ints 8 _)) (h _)
end

theorem dset_keys (m : List (Int × Sc)) (k : Int) (c : Sc) : (dset m k c).map (·.1) = if k ∈ m.map (·.1) then m.map (·.1) else m.map (·.1) ++ [k] := by
  unfold dset
  by_cases h : k ∈ m.map (·.1)
  · rw [if_pos h]
    have ha : (m.any fun kv => decide (kv.1 = k)) = true := by
      obtain ⟨kv, h1, h2⟩ := List.mem_map.mp h
      exact List.any_eq_true.mpr ⟨kv, h1, by simpa using h2⟩
    rw [if_pos ha, List.map_map]
    refine List.map_congr_left fun kv _ => ?_
    by_cases z : kv.1 = k <;> simp [z]
  · rw [if_neg h]
    have ha : ¬ (m.any fun kv => decide (kv.1 = k)) = true := fun e => by
      obtain ⟨kv, h1, h2⟩ := List.any_eq_true.mp e
      exact h (List.mem_map.mpr ⟨kv, h1, by simpa using h2⟩)
    rw [if_neg ha]; simp
theorem dset_mem {m : List (Int × Sc)} {k : Int} {c : Sc} {kv : Int × Sc} (h : kv ∈ dset m k c) : kv ∈ m ∨ kv = (k, c) := by
  unfold dset at h
  split at h
  · obtain ⟨kv', h1, h2⟩ := List.mem_map.mp h
    split at h2
    · rename_i z
      subst h2
      exact .inr (by rw [z])
    · subst h2; exact .inl h1
  · rcases List.mem_append.mp h with e | e
    · exact .inl e
    · exact .inr (List.mem_singleton.mp e)
theorem dset_len (m : List (Int × Sc)) (k : Int) (c : Sc) : (dset m k c).length ≤ m.length + 1 := by
  unfold dset
  split <;> simp

structure KI (S K : Addr) (i : Nat) (σ : Store) (m : List (Int × Sc)) : Prop where
  src : Src σ S
  known : σ K = some (.dict m)
  few : m.length ≤ i
  nodup : (m.map (·.1)).Nodup
  vals : ∀ k c, (k, c) ∈ m → ∃ i, c = .int i
  rest : ∀ y, y ≠ S → y ≠ K → σ y = none
theorem KI.to {S K : Addr} {i : Nat} {σ σ' : Store} {m : List (Int × Sc)} (hSK : S ≠ K) (x : KI S K i σ m) (t : To S σ σ') : KI S K i σ' m :=
  ⟨t.src, (t.rest K hSK.symm).trans x.known, x.few, x.nodup, x.vals, fun y h1 h2 => (t.rest y h1).trans (x.rest y h1 h2)⟩
theorem KI.set {S K : Addr} {i : Nat} {σ : Store} {m : List (Int × Sc)} (hSK : S ≠ K) (x : KI S K i σ m) (k v : Int) : KI S K (i + 1) (upd σ K (.dict (dset m k (.int v)))) (dset m k (.int v)) := by
  refine ⟨?_, upd_at, Nat.le_trans (dset_len ..) (Nat.succ_le_succ x.few), ?_, fun k' c hm => ?_, fun y h1 h2 => (upd_ne h2).trans (x.rest y h1 h2)⟩
  · obtain ⟨p, q, hs⟩ := x.src
    exact ⟨p, q, (upd_ne hSK).trans hs⟩
  · rw [dset_keys]
    split
    · exact x.nodup
    · rename_i h
      rw [List.nodup_append]
      exact ⟨x.nodup, by simp, fun a ha b hb z => by simp at hb; subst hb; exact h (z ▸ ha)⟩
  · rcases dset_mem hm with e | e
    · exact x.vals k' c e
    · cases e; exact ⟨v, rfl⟩

section
variable {C : Ctx}
set_option maxHeartbeats 8000000 in
theorem law_walk {n : Nat} (g : Prg C) {K' : Frag} {Bc fI : Addr} (bc : BodyC C K' Bc fI) (bf : BodyF C fI) (hpl : ∃ v, C.mg "PLAIN" = some v ∧ RV C C.h₀ (fun _ => none) (fun _ => False) v (.tup [.str "int", .str "bool"]))
    {X : Cx C (n + 5) (dScope 28).names} {ns : List Int} (hn : ns.length ≤ 100) : WpS X (dBody 28) [(Str.ofString "script", .lst (ns.map PV.int))] (fun _ => none) (fun _ _ => False) (fun p _ => p = .bool true) := by
  refine s_cons ?_
  repeat (walk_at "m")
  refine e_call g.h8 (by kernel_rfl!) (es_cons (e_local (by kernel_rfl!) rfl (es_cons (e_dict1 rfl rfl (es_nil ?_)))))
  refine c_read_operand (o := .part false 1 (.tup [.str "field", .int 0])) (m := [(1, .int 2)]) g.ok g.h8 (show Pl 2 _ by walk_at "pl") ?_
  rw [show rd [(1, .int 2)] (.part false 1 (.tup [.str "field", .int 0])) = .tup [.str "copy", .tup [.int 1, .tup [.tup [.str "field", .int 0]]]] from rfl]
  repeat (walk_at "m")
  refine e_call g.h8 (by kernel_rfl!) ?_
  repeat (walk_at "m")
  refine e_dict1 rfl rfl ?_
  repeat (walk_at "m")
  refine c_read_operand (o := .whole true 1) (m := [(1, .int 2)]) g.ok g.h8 trivial ?_
  rw [show rd [(1, .int 2)] (.whole true 1) = .tup [.str "copy", .tup [.int 2, .tup []]] from rfl]
  repeat (walk_at "m")
  -- source, known
  refine x_assign_sw (a := "source") (b := "known") (e_tuple (es_cons (e_call g.h16 (by kernel_rfl!) ?_)))
  repeat (walk_at "m")
  refine c_pool g.ok g.h16 hn fun S a b hS => ?_
  refine es_cons (e_dict0M fun K hK => ?_)
  repeat (walk_at "m")
  refine ⟨_, _, rfl, ?_⟩
  have hSK : S ≠ K := fun z => by subst z; rw [upd_at] at hK; cases hK
  have ki0 : KI S K 0 (upd (upd (fun _ => none) S (.list [.int a, .int b])) K (.dict [])) [] := ⟨⟨a, b, by rw [upd_ne hSK, upd_at]⟩, upd_at, Nat.le_refl _, by simp, fun k c h => (by cases h), fun y h1 h2 => by rw [upd_ne h2, upd_ne h1]⟩
  refine s_cons (x_for (e_callT boot_range (by decide) (es_cons (e_call g.h17 (by kernel_rfl!) ?_)) (by kernel_rfl!)))
  repeat (walk_at "m")
  refine c_take g.ok g.h17 ki0.src (by decide) (by decide) fun k σ₁ t1 k0 k5 => ?_
  have hk : 0 ≤ k ∧ k ≤ 1000 := ⟨k0, by omega⟩
  refine es_nil (f_range ⟨intsUp 0 k.toNat, by simp [itemsOf, hk], ?_⟩)
  refine forL_invN (N := 5) (fun i ρ σ' => get ρ "source" = some (.ref S) ∧ get ρ "known" = some (.ref K) ∧ ∃ m, KI S K i σ' m) (i := 0) (fun p hp i ρ σ' hi hI => ?_) (by rw [intsUp_length]; omega) ⟨rfl, rfl, [], ki0.to hSK t1⟩ fun ρ' σ₃ hI => ?_
  · obtain ⟨g1, g2, m, ki⟩ := hI
    refine as_local' ?_ (by kernel_rfl!)
    have g1' : get ((Str.ofString "turn", p) :: ρ) (Str.ofString "source") = some (.ref S) := by rw [get_cons, if_neg (by decide +kernel)]; exact g1
    have g2' : get ((Str.ofString "turn", p) :: ρ) (Str.ofString "known") = some (.ref K) := by rw [get_cons, if_neg (by decide +kernel)]; exact g2
    refine s_cons (x_assign_sw (a := "local") (b := "other") (e_tuple (es_cons (e_call g.h17 (by kernel_rfl!) (es_cons (e_local (by kernel_rfl!) g1' (es_cons (e_int (es_nil (c_take g.ok g.h17 ki.src (by decide) (by decide) fun l σa ta l0 l6 => ?_))))))))))
    refine es_cons (e_call g.h17 (by kernel_rfl!) (es_cons (e_local (by kernel_rfl!) g1' (es_cons (e_int (es_nil (c_take g.ok g.h17 ta.src (by decide) (by decide) fun v σb tb v0 v6 => ?_)))))))
    refine es_nil ⟨Nat.le_of_ble_eq_true rfl, _, _, rfl, ?_⟩
    have ki2 := (ki.to hSK ta).to hSK tb
    have g1'' : get ((Str.ofString "local", PV.int l) :: (Str.ofString "other", PV.int v) :: (Str.ofString "turn", p) :: ρ) (Str.ofString "source") = some (.ref S) := by rw [get_cons, if_neg (by decide +kernel), get_cons, if_neg (by decide +kernel)]; exact g1'
    have g2'' : get ((Str.ofString "local", PV.int l) :: (Str.ofString "other", PV.int v) :: (Str.ofString "turn", p) :: ρ) (Str.ofString "known") = some (.ref K) := by rw [get_cons, if_neg (by decide +kernel), get_cons, if_neg (by decide +kernel)]; exact g2'
    have hfew := ki2.few
    refine s_cons (x_assign (e_local (by kernel_rfl!) rfl (as_sub (e_local (by kernel_rfl!) g2'' (e_local (by kernel_rfl!) rfl (sw_dict (c := .int v) ki2.known rfl (by omega) ?_))))))
    exact s_nil ⟨g1'', g2'', _, ki2.set hSK l v⟩
  · obtain ⟨g1, g2, m, ki⟩ := hI
    rw [intsUp_length] at ki
    have hfew := ki.few
    have hw : Wf m := ⟨ki.nodup, ki.vals, by omega⟩
    have e : σ₃ = upd (era σ₃ K) K (.dict m) := by
      funext y
      by_cases z : y = K
      · subst z; rw [upd_at]; exact ki.known
      · rw [upd_ne z, era_ne z]
    rw [e]
    refine s_freezeD' "known" g2 era_at ?_
    have hsrc : Src (era σ₃ K) S := by
      obtain ⟨p, q, hq⟩ := ki.src
      exact ⟨p, q, (era_ne hSK).trans hq⟩
    have hsi : Simple (era σ₃ K) := fun y o ho => by
      by_cases z : y = K
      · subst z; rw [era_at] at ho; cases ho
      rw [era_ne z] at ho
      by_cases z0 : y = S
      · subst z0
        obtain ⟨p, q, hq⟩ := ki.src
        rw [hq] at ho; cases ho
        exact ⟨[p, q], rfl⟩
      · rw [ki.rest y z0 z] at ho; cases ho
    have g1' : get ((Str.ofString "known", PV.dct m) :: ρ') (Str.ofString "source") = some (.ref S) := by rw [get_cons, if_neg (by decide +kernel)]; exact g1
    refine s_cons (x_ret (e_and (e_call g.h24 (by kernel_rfl!) (es_cons (e_local (by kernel_rfl!) g1' (es_cons (e_local (by kernel_rfl!) rfl (es_nil ?_))))))))
    refine c_reads_right g hsrc hw fun σ₄ t4 => ⟨true, rfl, br_true rfl ?_⟩
    refine e_and (e_call g.h26 (by kernel_rfl!) (es_cons (e_local (by kernel_rfl!) g1' (es_cons (e_local (by kernel_rfl!) rfl (es_nil ?_))))))
    refine c_forgets_right g t4.src (hsi.to t4) hw fun σ₅ t5 => ⟨true, rfl, br_true rfl ?_⟩
    refine e_and1 (e_call g.h27 (by kernel_rfl!) (es_cons (e_local (by kernel_rfl!) g1' (es_nil ?_))))
    exact c_lent_right g bc bf hpl t5.src ((hsi.to t4).to t5) fun σ₆ => rfl
end

def dPos (i : Nat) : Pos := match tops[i]? with | some (.FunctionDef _ _ _ _ _ _ _ _ _ q) => q | _ => default
def recAt (e : Nat × Str) : DefRec := ⟨e.2, dParams e.1, dBody e.1, dScope e.1, dPos e.1⟩
def defTable : List (Nat × Str) := [(3, "operands_of"), (4, "with_operands"), (7, "lent_or_other"), (8, "read_operand"), (9, "read_operands"), (10, "read_rvalue"), (11, "read_statement"), (12, "read_terminator"), (13, "forget"), (14, "forget_moved"),
  (16, "_law_pool"), (17, "_law_take"), (18, "_law_one"), (19, "_law_u8"), (20, "_law_twin"), (21, "_law_rvalues"), (22, "_law_statements"), (23, "_law_terminators"), (24, "_law_reads_right"), (25, "_law_without"), (26, "_law_forgets_right"), (27, "_law_lent_right")]

theorem mgK {K : Frag} {h : Heap} {N : Addr} {mg : Str → Option Value} {x : Str} {r : Option Value} (X : K.In h) (G : h.Ns N mg) (e : nsIn K N x = some r) : mg x = r := by
  unfold nsIn at e
  split at e
  · rename_i oc od es n sl ho
    obtain ⟨o, es', ep, h1, h2, _, h4⟩ := G
    rw [X _ _ ho] at h1
    cases h1
    cases h2
    rw [← h4]
    unfold nsFind findBy
    rw [← Array.find?_toList]
    split at e
    · rename_i en he
      cases e
      rw [he]; rfl
    · rename_i he
      split at e
      · cases e
      · cases e
        rw [he]; rfl
  · cases e

theorem prg_of {prog : Program} {w : World} {p : Program} {loose : List Str} {mean : ExcName → Option Value} {mg mb : Str → Option Value} {h : Heap} {K : Frag} (T : Top p loose mean mg mb h) (KX : K.In h)
    (hrec : recsOf p = recAt (0, "_wall") :: (defTable.map recAt ++ [recAt (28, "law")]))
    (hfree : ∀ x ∈ (["max", "int", "len", "list", "tuple", "range", "dict", "sorted"] : List Str), nsIn K mainGlobals x = some none) : Prg ⟨prog, w, h, mg, mb⟩ := by
  have at_ : ∀ e ∈ defTable, At ⟨prog, w, h, mg, mb⟩ e.1 e.2 := by
    intro e he
    have hm : recAt e ∈ recsOf p := by
      rw [hrec]
      exact List.mem_cons_of_mem _ (List.mem_append.mpr (.inl (List.mem_map.mpr ⟨e, he, rfl⟩)))
    exact T.fn _ hm
  have ok : Ctx.Ok ⟨prog, w, h, mg, mb⟩ := ⟨T.g, T.b, T.nolimit, T.builtins, fun x hx => mgK KX T.g (hfree x hx)⟩
  exact { ok := ok
          h3 := at_ (3, "operands_of") (by simp [defTable])
          h4 := at_ (4, "with_operands") (by simp [defTable])
          h7 := at_ (7, "lent_or_other") (by simp [defTable])
          h8 := at_ (8, "read_operand") (by simp [defTable])
          h9 := at_ (9, "read_operands") (by simp [defTable])
          h10 := at_ (10, "read_rvalue") (by simp [defTable])
          h11 := at_ (11, "read_statement") (by simp [defTable])
          h12 := at_ (12, "read_terminator") (by simp [defTable])
          h13 := at_ (13, "forget") (by simp [defTable])
          h14 := at_ (14, "forget_moved") (by simp [defTable])
          h16 := at_ (16, "_law_pool") (by simp [defTable])
          h17 := at_ (17, "_law_take") (by simp [defTable])
          h18 := at_ (18, "_law_one") (by simp [defTable])
          h19 := at_ (19, "_law_u8") (by simp [defTable])
          h20 := at_ (20, "_law_twin") (by simp [defTable])
          h21 := at_ (21, "_law_rvalues") (by simp [defTable])
          h22 := at_ (22, "_law_statements") (by simp [defTable])
          h23 := at_ (23, "_law_terminators") (by simp [defTable])
          h24 := at_ (24, "_law_reads_right") (by simp [defTable])
          h25 := at_ (25, "_law_without") (by simp [defTable])
          h26 := at_ (26, "_law_forgets_right") (by simp [defTable])
          h27 := at_ (27, "_law_lent_right") (by simp [defTable]) }

theorem well_ints {P : Params} {h : Heap} : ∀ {ns : List Int} {vs : List Value}, WellAll P h vs (ofPys (ns.map PyData.int)) → IntsAre vs ns
  | [], vs, x => by
    have x' : WellAll P h vs [] := by simpa [ofPys] using x
    cases x'; exact .nil
  | k :: ns, vs, x => by
    have x' : WellAll P h vs (.int k :: ofPys (ns.map PyData.int)) := by simpa [ofPys, ofPy] using x
    cases x' with
    | cons a b =>
      cases a
      exact .cons k _ (well_ints b)
theorem script_rv {C : Ctx} {P : Params} {ns : List Int} {a : Addr} (x : Well P C.h₀ (.ref a) (ofPy (.list (ns.map PyData.int)))) : RV C C.h₀ (fun _ => none) (fun _ => False) (.ref a) (.lst (ns.map PV.int)) := by
  have x' : Well P C.h₀ (.ref a) (.list (ofPys (ns.map PyData.int))) := by simpa [ofPy] using x
  cases x' with
  | list h1 h2 => exact .lst h1 ⟨rfl, id⟩ (intsRV (well_ints h2))

theorem finish {C : Ctx} {body : List Stmt} {scope : Scope} (ok : C.Ok) (hkind : scope.kind = .function) (hnc : ∀ y ∈ scope.names, y.2 ≠ .cell) {s : Shared} {L fa : Addr} {cd : Value} {m : Str → Option Value} {ns : List Int} {v : Value} {Q : Flow → Shared → Prop} {E : Value → Shared → Prop}
    (hlaw : ∀ X : Cx C (20 + 5) scope.names, WpS X body [(Str.ofString "script", .lst (ns.map PV.int))] (fun _ => none) (fun _ _ => False) (fun p _ => p = .bool true))
    (F : Fr C.h₀ L s.heap m) (hL : C.h₀.get? L = none) (hm : m "script" = some v) (rs : RV C C.h₀ (fun _ => none) (fun _ => False) v (.lst (ns.map PV.int)))
    (hQ : ∀ s' m', Fr C.h₀ L s'.heap m' → s'.gens = s.gens → s'.os = s.os → Q (.ret (.bool true)) s') :
    wpAny (model C.prog C.w) (callerA.deeper (envOf "law" scope L fa cd)) (execs body (envOf "law" scope L fa cd)) Q E s := by
  obtain ⟨X, hA, hE, hO⟩ : ∃ X : Cx C (20 + 5) scope.names, X.A = callerA.deeper (envOf "law" scope L fa cd) ∧ X.env = envOf "law" scope L fa cd ∧ X.own = fun b => b = L := ⟨
    { A := callerA.deeper (envOf "law" scope L fa cd), env := envOf "law" scope L fa cd, own := fun b => b = L, ok := ok, lv := ⟨rfl, by show 1 + claimMargin + 1 + 2 * (20 + 5) ≤ 900; decide, by show 4 + 3 + 16 * (20 + 5) + 400 ≤ 9900; decide⟩
      kind := hkind, names := fun _ => rfl, globals := rfl, builtins := rfl, ownL := rfl, mayC := True, ownC := fun _ m c _ e => by cases e
      hasC := fun x e => by
        exfalso
        exact hnc _ (mem_of_lookup e) rfl
      apart := fun _ => List.Pairwise.nil }, rfl, rfl, rfl⟩
  have hLoc : X.env.locals = L := by rw [hE]; rfl
  have hCells : X.env.cells = [] := by rw [hE]; rfl
  have hk := F.keep
  have hex : ∃ o, s.heap.get? L = some o := by obtain ⟨o, _, _, e, _⟩ := F.ns; exact ⟨o, e⟩
  have B : BaseS C (fun _ => none) (fun b => b = L) s.heap := by
    refine ⟨hk, fun a o e => ?_, fun a e => ?_⟩
    · cases e
    · subst e; exact ⟨hL, hex⟩
  have i : Sim X [(Str.ofString "script", .lst (ns.map PV.int))] (fun _ => none) (fun b => b = L) s.heap := by
    refine ⟨B, ⟨m, by rw [hLoc]; exact F.ns, fun x p e k => ?_⟩, hLoc, fun a e => ?_, fun n c e => ?_⟩
    · rw [get_cons] at e
      split at e
      · cases e
        rename_i z
        subst z
        refine ⟨v, hm, rs.mono fun b o e f => ⟨hk b o e, rfl, fun z => ?_⟩⟩
        rw [show b = L from z, hL] at e; cases e
      · cases e
    · rw [hO] at e; exact e
    · rw [hCells] at e; cases e
  have hw : wpAny X.M X.A (execs body X.env) (PostS X (fun _ => none) (fun b => b = L) s (fun _ _ => False) (fun p _ => p = .bool true)) F0 s := hlaw X s (fun b => b = L) i
  rw [hA, hE] at hw
  refine wpAny_mono hw (fun f s' y => ?_) fun _ _ z => z.elim
  obtain ⟨ρ', σ', π', i', adv, sm, e⟩ := y
  obtain ⟨m', hm', _⟩ := i'.ns
  rw [hLoc] at hm'
  cases f with
  | next => exact e.elim
  | ret v =>
    obtain ⟨p, rp, rfl⟩ := e
    cases rp
    exact hQ s' m' ⟨hm', i'.base.base, F.above⟩ sm.1 sm.2.1
  | brk => exact e.elim
  | cont => exact e.elim

set_option maxHeartbeats 20000000

noncomputable def K (P : PySem.Params) : Frag := [
  (2, { cls := .none, data := .dict #[] }),
  (3, { cls := .type "dict", data := .dict #[{ hash := PyData.keyHash P "__name__", key := .str "__name__" 165, val := .str "law_xm0584_01" 369 }, { hash := PyData.keyHash P "__doc__", key := .str "__doc__" 166, val := .none }, { hash := PyData.keyHash P "__package__", key := .str "__package__" 167, val := .none }, { hash := PyData.keyHash P "__loader__", key := .str "__loader__" 168, val := .builtin "__main__.__loader__#opaque" }, { hash := PyData.keyHash P "__spec__", key := .str "__spec__" 169, val := .none }, { hash := PyData.keyHash P "__annotations__", key := .str "__annotations__" 170, val := .ref 6 }, { hash := PyData.keyHash P "__builtins__", key := .str "__builtins__" 171, val := .ref 4 }, { hash := PyData.keyHash P "__file__", key := .str "__file__" 173, val := .str "/claim/cut.py" 172 }, { hash := PyData.keyHash P "__cached__", key := .str "__cached__" 174, val := .none }, { hash := PyData.keyHash P "_wall", key := .str "_wall" 193, val := .ref 21 }, { hash := PyData.keyHash P "Body", key := .str "Body" 281, val := .ref 82 }, { hash := PyData.keyHash P "operands_of", key := .str "operands_of" 289, val := .ref 93 }, { hash := PyData.keyHash P "with_operands", key := .str "with_operands" 298, val := .ref 100 }, { hash := PyData.keyHash P "PLAIN", key := .str "PLAIN" 303, val := .ref 101 }, { hash := PyData.keyHash P "lent_or_other", key := .str "lent_or_other" 315, val := .ref 108 }, { hash := PyData.keyHash P "read_operand", key := .str "read_operand" 323, val := .ref 115 }, { hash := PyData.keyHash P "read_operands", key := .str "read_operands" 329, val := .ref 120 }, { hash := PyData.keyHash P "read_rvalue", key := .str "read_rvalue" 337, val := .ref 127 }, { hash := PyData.keyHash P "read_statement", key := .str "read_statement" 345, val := .ref 134 }, { hash := PyData.keyHash P "read_terminator", key := .str "read_terminator" 353, val := .ref 141 }, { hash := PyData.keyHash P "forget", key := .str "forget" 359, val := .ref 146 }, { hash := PyData.keyHash P "forget_moved", key := .str "forget_moved" 368, val := .ref 153 }, { hash := PyData.keyHash P "_law_pool", key := .str "_law_pool" 379, val := .ref 160 }, { hash := PyData.keyHash P "_law_take", key := .str "_law_take" 388, val := .ref 167 }, { hash := PyData.keyHash P "_law_one", key := .str "_law_one" 396, val := .ref 174 }, { hash := PyData.keyHash P "_law_u8", key := .str "_law_u8" 402, val := .ref 181 }, { hash := PyData.keyHash P "_law_twin", key := .str "_law_twin" 414, val := .ref 188 }, { hash := PyData.keyHash P "_law_rvalues", key := .str "_law_rvalues" 423, val := .ref 195 }, { hash := PyData.keyHash P "_law_statements", key := .str "_law_statements" 433, val := .ref 202 }, { hash := PyData.keyHash P "_law_terminators", key := .str "_law_terminators" 442, val := .ref 209 }, { hash := PyData.keyHash P "_law_reads_right", key := .str "_law_reads_right" 448, val := .ref 214 }, { hash := PyData.keyHash P "_law_without", key := .str "_law_without" 454, val := .ref 219 }, { hash := PyData.keyHash P "_law_forgets_right", key := .str "_law_forgets_right" 460, val := .ref 224 }, { hash := PyData.keyHash P "_law_lent_right", key := .str "_law_lent_right" 466, val := .ref 229 }, { hash := PyData.keyHash P "law", key := .str "law" 479, val := .ref 236 }] 35 }),
  (29, { cls := .type "tuple", data := .seq #[.none, .none] }),
  (35, { cls := .type "code", data := .fields #[.str "__init__" 208, .str "Body.__init__" 209, .str "/claim/cut.py" 210, .int 7 0, .int 6 0, .int 0 0, .int 0 0, .int 3 0, .ref 30, .bool Bool.true, .int 181 0, .ref 31, .none, .ref 32, .ref 33, .ref 34, .int 217 0, .int 7 0, .str "/claim/cut.py" 218] }),
  (36, { cls := .type "function", data := .func { name := PySem.Str.ofString "__init__", qualname := PySem.Str.ofString "Body.__init__", params := iParams, body := .stmts iBody, scope := iScope, globals := 3, closure := [], defaults := .ref 29, kwdefaults := .none, pyModule := .str "lendcore.mir" 194, code := .ref 35 } }),
  (80, { cls := .type "tuple", data := .seq #[.str "arg_count" 269, .str "blocks" 270, .str "locals" 271, .str "name" 272, .str "spots" 273] }),
  (81, { cls := .type "dict", data := .dict #[{ hash := PyData.keyHash P "__module__", key := .str "__module__" 203, val := .str "lendcore.mir" 194 }, { hash := PyData.keyHash P "__firstlineno__", key := .str "__firstlineno__" 207, val := .int 5 206 }, { hash := PyData.keyHash P "__init__", key := .str "__init__" 219, val := .ref 36 }, { hash := PyData.keyHash P "type_of", key := .str "type_of" 227, val := .ref 43 }, { hash := PyData.keyHash P "args", key := .str "args" 234, val := .ref 50 }, { hash := PyData.keyHash P "statements", key := .str "statements" 242, val := .ref 57 }, { hash := PyData.keyHash P "terminator", key := .str "terminator" 250, val := .ref 64 }, { hash := PyData.keyHash P "spot", key := .str "spot" 258, val := .ref 71 }, { hash := PyData.keyHash P "new_local", key := .str "new_local" 268, val := .ref 79 }, { hash := PyData.keyHash P "__static_attributes__", key := .str "__static_attributes__" 274, val := .ref 80 }, { hash := PyData.keyHash P "__dict__", key := .str "__dict__" 276, val := .ref 83 }, { hash := PyData.keyHash P "__weakref__", key := .str "__weakref__" 278, val := .ref 84 }, { hash := PyData.keyHash P "__doc__", key := .str "__doc__" 279, val := .none }] 4 }),
  (82, { cls := .type "type", data := .cls { name := PySem.Str.ofString "Body", bases := [.type "object"], mro := [.ref 82, .type "object"], ns := 81, qualname := PySem.Str.ofString "Body" }, slots := #[Option.none, Option.none, Option.some (.str "Body" 196), Option.some (.str "Body" 204), Option.some (.builtin "object.__new__"), Option.some (.bool Bool.true)] }),
  (101, { cls := .type "tuple", data := .seq #[.str "int" 301, .str "bool" 302] })]
def kAs : List Addr := [2, 3, 29, 35, 36, 80, 81, 82, 101]
theorem k_as (P : PySem.Params) : kAs = (K P).map (·.1) := rfl
noncomputable def qView : Program := view PySem.Challenge.pw_xm0584_01 [0, 2, 3, 4, 6, 7, 8, 9, 10, 11, 12, 13, 14, 16, 17, 18, 19, 20, 21, 22, 23, 24, 25, 26, 27, 28]

def clsSts : List Stmt := match (Mine.tops[2]? : Option Stmt) with
  | some (Stmt.ClassDef _ _ _ b _ _ _ _ _ _ _) => b
  | _ => []
def mParams (i : Nat) : Arguments := match clsSts[i]? with | some (.FunctionDef _ a _ _ _ _ _ _ _ _) => a | _ => default
def mBody (i : Nat) : List Stmt := match clsSts[i]? with | some (.FunctionDef _ _ b _ _ _ _ _ _ _) => b | _ => default
def mScope (i : Nat) : Scope := match clsSts[i]? with | some (.FunctionDef _ _ _ _ _ _ s _ _ _) => s | _ => default
noncomputable def o11 (P : PySem.Params) : Obj := { cls := .type "tuple", data := .seq #[] }
noncomputable def o13 (P : PySem.Params) : Obj := { cls := .type "code", data := .fields #[.str "<module>" 182, .str "<module>" 183, .str "/claim/cut.py" 184, .int 1 0, .int 0 0, .int 0 0, .int 0 0, .int 0 0, .ref 11, .bool Bool.false, .int 181 0, .ref 12, .none, .none, .none, .none, .int 185 0, .int 1 0, .str "/claim/cut.py" 186] }
noncomputable def o14 (P : PySem.Params) : Obj := { cls := .type "frame", slots := #[Option.some (.ref 13), Option.some (.ref 3), Option.some (.ref 3), Option.none, Option.some (.str "__main__" 164), Option.none, Option.some (.ref 0)] }
noncomputable def o16 (P : PySem.Params) : Obj := { cls := .none, data := .fields #[] }
noncomputable def o17 (P : PySem.Params) : Obj := { cls := .type "tuple", data := .seq #[.str "k" 190] }
noncomputable def o19 (P : PySem.Params) : Obj := { cls := .none, data := .func { name := "_wall", qualname := "_wall", params := dParams 0, body := .stmts (dBody 0), scope := dScope 0, globals := 0, closure := [], defaults := .none, kwdefaults := .none } }
noncomputable def o20 (P : PySem.Params) : Obj := { cls := .type "code", data := .fields #[.str "_wall" 187, .str "_wall" 188, .str "/claim/cut.py" 189, .int 1 0, .int 1 0, .int 0 0, .int 0 0, .int 3 0, .ref 15, .bool Bool.true, .int 181 0, .ref 16, .none, .ref 17, .ref 18, .ref 19, .int 191 0, .int 1 0, .str "/claim/cut.py" 192] }
noncomputable def o21 (P : PySem.Params) : Obj := { cls := .type "function", data := .func { name := "_wall", qualname := "_wall", params := dParams 0, body := .stmts (dBody 0), scope := dScope 0, globals := 3, closure := [], defaults := .none, kwdefaults := .none, pyModule := .str "__main__" 164, code := .ref 20 } }
noncomputable def o23 (P : PySem.Params) : Obj := { cls := .type "builtin_function_or_method", data := .fields #[.builtin "type.__prepare__", .type "type"] }
noncomputable def o24 (P : PySem.Params) : Obj := { cls := .type "dict", data := .dict #[{ hash := PyData.keyHash P "__module__", key := .str "__module__" 203, val := .str "lendcore.mir" 194 }, { hash := PyData.keyHash P "__qualname__", key := .str "__qualname__" 205, val := .str "Body" 204 }, { hash := PyData.keyHash P "__firstlineno__", key := .str "__firstlineno__" 207, val := .int 5 206 }, { hash := PyData.keyHash P "__init__", key := .str "__init__" 219, val := .ref 36 }, { hash := PyData.keyHash P "type_of", key := .str "type_of" 227, val := .ref 43 }, { hash := PyData.keyHash P "args", key := .str "args" 234, val := .ref 50 }, { hash := PyData.keyHash P "statements", key := .str "statements" 242, val := .ref 57 }, { hash := PyData.keyHash P "terminator", key := .str "terminator" 250, val := .ref 64 }, { hash := PyData.keyHash P "spot", key := .str "spot" 258, val := .ref 71 }, { hash := PyData.keyHash P "new_local", key := .str "new_local" 268, val := .ref 79 }, { hash := PyData.keyHash P "__static_attributes__", key := .str "__static_attributes__" 274, val := .ref 80 }] 11 }
noncomputable def o26 (P : PySem.Params) : Obj := { cls := .none, data := .fields #[.int 7 0, .int 4 0, .ref 35, .int 14 0, .int 4 0, .ref 42, .int 17 0, .int 4 0, .ref 49, .int 20 0, .int 4 0, .ref 56, .int 23 0, .int 4 0, .ref 63, .int 26 0, .int 4 0, .ref 70, .int 29 0, .int 4 0, .ref 78] }
noncomputable def o27 (P : PySem.Params) : Obj := { cls := .type "code", data := .fields #[.str "Body" 198, .str "Body" 199, .str "/claim/cut.py" 200, .int 5 0, .int 0 0, .int 0 0, .int 0 0, .int 0 0, .ref 25, .bool Bool.false, .int 181 0, .ref 26, .none, .none, .none, .none, .int 201 0, .int 5 0, .str "/claim/cut.py" 202] }
noncomputable def o28 (P : PySem.Params) : Obj := { cls := .type "frame", slots := #[Option.some (.ref 27), Option.some (.ref 3), Option.some (.ref 24), Option.none, Option.some (.str "lendcore.mir" 194), Option.none, Option.some (.ref 0)] }
noncomputable def o29 (P : PySem.Params) : Obj := { cls := .type "tuple", data := .seq #[.none, .none] }
noncomputable def o32 (P : PySem.Params) : Obj := { cls := .type "tuple", data := .seq #[.str "self" 211, .str "name" 212, .str "arg_count" 213, .str "locals_told" 214, .str "blocks" 215, .str "spots" 216] }
noncomputable def o34 (P : PySem.Params) : Obj := { cls := .none, data := .func { name := "__init__", qualname := "Body.__init__", params := mParams 0, body := .stmts (mBody 0), scope := mScope 0, globals := 0, closure := [], defaults := .none, kwdefaults := .none } }
noncomputable def o35 (P : PySem.Params) : Obj := { cls := .type "code", data := .fields #[.str "__init__" 208, .str "Body.__init__" 209, .str "/claim/cut.py" 210, .int 7 0, .int 6 0, .int 0 0, .int 0 0, .int 3 0, .ref 30, .bool Bool.true, .int 181 0, .ref 31, .none, .ref 32, .ref 33, .ref 34, .int 217 0, .int 7 0, .str "/claim/cut.py" 218] }
noncomputable def o36 (P : PySem.Params) : Obj := { cls := .type "function", data := .func { name := "__init__", qualname := "Body.__init__", params := mParams 0, body := .stmts (mBody 0), scope := mScope 0, globals := 3, closure := [], defaults := .ref 29, kwdefaults := .none, pyModule := .str "lendcore.mir" 194, code := .ref 35 } }
noncomputable def o39 (P : PySem.Params) : Obj := { cls := .type "tuple", data := .seq #[.str "self" 223, .str "local" 224] }
noncomputable def o41 (P : PySem.Params) : Obj := { cls := .none, data := .func { name := "type_of", qualname := "Body.type_of", params := mParams 1, body := .stmts (mBody 1), scope := mScope 1, globals := 0, closure := [], defaults := .none, kwdefaults := .none } }
noncomputable def o42 (P : PySem.Params) : Obj := { cls := .type "code", data := .fields #[.str "type_of" 220, .str "Body.type_of" 221, .str "/claim/cut.py" 222, .int 14 0, .int 2 0, .int 0 0, .int 0 0, .int 3 0, .ref 37, .bool Bool.true, .int 181 0, .ref 38, .none, .ref 39, .ref 40, .ref 41, .int 225 0, .int 14 0, .str "/claim/cut.py" 226] }
noncomputable def o43 (P : PySem.Params) : Obj := { cls := .type "function", data := .func { name := "type_of", qualname := "Body.type_of", params := mParams 1, body := .stmts (mBody 1), scope := mScope 1, globals := 3, closure := [], defaults := .none, kwdefaults := .none, pyModule := .str "lendcore.mir" 194, code := .ref 42 } }
noncomputable def o46 (P : PySem.Params) : Obj := { cls := .type "tuple", data := .seq #[.str "self" 231] }
noncomputable def o48 (P : PySem.Params) : Obj := { cls := .none, data := .func { name := "args", qualname := "Body.args", params := mParams 2, body := .stmts (mBody 2), scope := mScope 2, globals := 0, closure := [], defaults := .none, kwdefaults := .none } }
noncomputable def o49 (P : PySem.Params) : Obj := { cls := .type "code", data := .fields #[.str "args" 228, .str "Body.args" 229, .str "/claim/cut.py" 230, .int 17 0, .int 1 0, .int 0 0, .int 0 0, .int 3 0, .ref 44, .bool Bool.true, .int 181 0, .ref 45, .none, .ref 46, .ref 47, .ref 48, .int 232 0, .int 17 0, .str "/claim/cut.py" 233] }
noncomputable def o50 (P : PySem.Params) : Obj := { cls := .type "function", data := .func { name := "args", qualname := "Body.args", params := mParams 2, body := .stmts (mBody 2), scope := mScope 2, globals := 3, closure := [], defaults := .none, kwdefaults := .none, pyModule := .str "lendcore.mir" 194, code := .ref 49 } }
noncomputable def o53 (P : PySem.Params) : Obj := { cls := .type "tuple", data := .seq #[.str "self" 238, .str "block" 239] }
noncomputable def o55 (P : PySem.Params) : Obj := { cls := .none, data := .func { name := "statements", qualname := "Body.statements", params := mParams 3, body := .stmts (mBody 3), scope := mScope 3, globals := 0, closure := [], defaults := .none, kwdefaults := .none } }
noncomputable def o56 (P : PySem.Params) : Obj := { cls := .type "code", data := .fields #[.str "statements" 235, .str "Body.statements" 236, .str "/claim/cut.py" 237, .int 20 0, .int 2 0, .int 0 0, .int 0 0, .int 3 0, .ref 51, .bool Bool.true, .int 181 0, .ref 52, .none, .ref 53, .ref 54, .ref 55, .int 240 0, .int 20 0, .str "/claim/cut.py" 241] }
noncomputable def o57 (P : PySem.Params) : Obj := { cls := .type "function", data := .func { name := "statements", qualname := "Body.statements", params := mParams 3, body := .stmts (mBody 3), scope := mScope 3, globals := 3, closure := [], defaults := .none, kwdefaults := .none, pyModule := .str "lendcore.mir" 194, code := .ref 56 } }
noncomputable def o60 (P : PySem.Params) : Obj := { cls := .type "tuple", data := .seq #[.str "self" 246, .str "block" 247] }
noncomputable def o62 (P : PySem.Params) : Obj := { cls := .none, data := .func { name := "terminator", qualname := "Body.terminator", params := mParams 4, body := .stmts (mBody 4), scope := mScope 4, globals := 0, closure := [], defaults := .none, kwdefaults := .none } }
noncomputable def o63 (P : PySem.Params) : Obj := { cls := .type "code", data := .fields #[.str "terminator" 243, .str "Body.terminator" 244, .str "/claim/cut.py" 245, .int 23 0, .int 2 0, .int 0 0, .int 0 0, .int 3 0, .ref 58, .bool Bool.true, .int 181 0, .ref 59, .none, .ref 60, .ref 61, .ref 62, .int 248 0, .int 23 0, .str "/claim/cut.py" 249] }
noncomputable def o64 (P : PySem.Params) : Obj := { cls := .type "function", data := .func { name := "terminator", qualname := "Body.terminator", params := mParams 4, body := .stmts (mBody 4), scope := mScope 4, globals := 3, closure := [], defaults := .none, kwdefaults := .none, pyModule := .str "lendcore.mir" 194, code := .ref 63 } }
noncomputable def o67 (P : PySem.Params) : Obj := { cls := .type "tuple", data := .seq #[.str "self" 254, .str "point" 255] }
noncomputable def o69 (P : PySem.Params) : Obj := { cls := .none, data := .func { name := "spot", qualname := "Body.spot", params := mParams 5, body := .stmts (mBody 5), scope := mScope 5, globals := 0, closure := [], defaults := .none, kwdefaults := .none } }
noncomputable def o70 (P : PySem.Params) : Obj := { cls := .type "code", data := .fields #[.str "spot" 251, .str "Body.spot" 252, .str "/claim/cut.py" 253, .int 26 0, .int 2 0, .int 0 0, .int 0 0, .int 3 0, .ref 65, .bool Bool.true, .int 181 0, .ref 66, .none, .ref 67, .ref 68, .ref 69, .int 256 0, .int 26 0, .str "/claim/cut.py" 257] }
noncomputable def o71 (P : PySem.Params) : Obj := { cls := .type "function", data := .func { name := "spot", qualname := "Body.spot", params := mParams 5, body := .stmts (mBody 5), scope := mScope 5, globals := 3, closure := [], defaults := .none, kwdefaults := .none, pyModule := .str "lendcore.mir" 194, code := .ref 70 } }
noncomputable def o72 (P : PySem.Params) : Obj := { cls := .type "tuple", data := .seq #[.bool Bool.true, .none] }
noncomputable def o75 (P : PySem.Params) : Obj := { cls := .type "tuple", data := .seq #[.str "self" 262, .str "told" 263, .str "is_mut" 264, .str "name" 265] }
noncomputable def o77 (P : PySem.Params) : Obj := { cls := .none, data := .func { name := "new_local", qualname := "Body.new_local", params := mParams 6, body := .stmts (mBody 6), scope := mScope 6, globals := 0, closure := [], defaults := .none, kwdefaults := .none } }
noncomputable def o78 (P : PySem.Params) : Obj := { cls := .type "code", data := .fields #[.str "new_local" 259, .str "Body.new_local" 260, .str "/claim/cut.py" 261, .int 29 0, .int 4 0, .int 0 0, .int 0 0, .int 3 0, .ref 73, .bool Bool.true, .int 181 0, .ref 74, .none, .ref 75, .ref 76, .ref 77, .int 266 0, .int 29 0, .str "/claim/cut.py" 267] }
noncomputable def o79 (P : PySem.Params) : Obj := { cls := .type "function", data := .func { name := "new_local", qualname := "Body.new_local", params := mParams 6, body := .stmts (mBody 6), scope := mScope 6, globals := 3, closure := [], defaults := .ref 72, kwdefaults := .none, pyModule := .str "lendcore.mir" 194, code := .ref 78 } }
noncomputable def o80 (P : PySem.Params) : Obj := { cls := .type "tuple", data := .seq #[.str "arg_count" 269, .str "blocks" 270, .str "locals" 271, .str "name" 272, .str "spots" 273] }
noncomputable def o81 (P : PySem.Params) : Obj := { cls := .type "dict", data := .dict #[{ hash := PyData.keyHash P "__module__", key := .str "__module__" 203, val := .str "lendcore.mir" 194 }, { hash := PyData.keyHash P "__firstlineno__", key := .str "__firstlineno__" 207, val := .int 5 206 }, { hash := PyData.keyHash P "__init__", key := .str "__init__" 219, val := .ref 36 }, { hash := PyData.keyHash P "type_of", key := .str "type_of" 227, val := .ref 43 }, { hash := PyData.keyHash P "args", key := .str "args" 234, val := .ref 50 }, { hash := PyData.keyHash P "statements", key := .str "statements" 242, val := .ref 57 }, { hash := PyData.keyHash P "terminator", key := .str "terminator" 250, val := .ref 64 }, { hash := PyData.keyHash P "spot", key := .str "spot" 258, val := .ref 71 }, { hash := PyData.keyHash P "new_local", key := .str "new_local" 268, val := .ref 79 }, { hash := PyData.keyHash P "__static_attributes__", key := .str "__static_attributes__" 274, val := .ref 80 }, { hash := PyData.keyHash P "__dict__", key := .str "__dict__" 276, val := .ref 83 }, { hash := PyData.keyHash P "__weakref__", key := .str "__weakref__" 278, val := .ref 84 }, { hash := PyData.keyHash P "__doc__", key := .str "__doc__" 279, val := .none }] 4 }
noncomputable def o82 (P : PySem.Params) : Obj := { cls := .type "type", data := .cls { name := "Body", bases := [.type "object"], mro := [.ref 82, .type "object"], ns := 81, qualname := "Body" }, slots := #[Option.none, Option.none, Option.some (.str "Body" 196), Option.some (.str "Body" 204), Option.some (.builtin "object.__new__"), Option.some (.bool Bool.true)] }
noncomputable def o83 (P : PySem.Params) : Obj := { cls := .type "getset_descriptor", data := .fields #[.str "__dict__" 275, .ref 82, .builtin "function.__dict__", .builtin "function.__dict__#set"] }
noncomputable def o84 (P : PySem.Params) : Obj := { cls := .type "getset_descriptor", data := .fields #[.str "__weakref__" 277, .ref 82, .builtin "ExceptionGroup.__weakref__", .none] }
noncomputable def o85 (P : PySem.Params) : Obj := { cls := .type "super", data := .fields #[.ref 82, .ref 82, .ref 82] }
noncomputable def o86 (P : PySem.Params) : Obj := { cls := .type "builtin_function_or_method", data := .fields #[.builtin "object.__init_subclass__", .ref 82] }
noncomputable def o89 (P : PySem.Params) : Obj := { cls := .type "tuple", data := .seq #[.str "rvalue" 285, .str "word" 286] }
noncomputable def o91 (P : PySem.Params) : Obj := { cls := .none, data := .func { name := "operands_of", qualname := "operands_of", params := dParams 3, body := .stmts (dBody 3), scope := dScope 3, globals := 0, closure := [], defaults := .none, kwdefaults := .none } }
noncomputable def o92 (P : PySem.Params) : Obj := { cls := .type "code", data := .fields #[.str "operands_of" 282, .str "operands_of" 283, .str "/claim/cut.py" 284, .int 31 0, .int 1 0, .int 0 0, .int 0 0, .int 3 0, .ref 87, .bool Bool.true, .int 181 0, .ref 88, .none, .ref 89, .ref 90, .ref 91, .int 287 0, .int 31 0, .str "/claim/cut.py" 288] }
noncomputable def o93 (P : PySem.Params) : Obj := { cls := .type "function", data := .func { name := "operands_of", qualname := "operands_of", params := dParams 3, body := .stmts (dBody 3), scope := dScope 3, globals := 3, closure := [], defaults := .none, kwdefaults := .none, pyModule := .str "lendcore.mir" 194, code := .ref 92 } }
noncomputable def o96 (P : PySem.Params) : Obj := { cls := .type "tuple", data := .seq #[.str "rvalue" 293, .str "operands" 294, .str "word" 295] }
noncomputable def o98 (P : PySem.Params) : Obj := { cls := .none, data := .func { name := "with_operands", qualname := "with_operands", params := dParams 4, body := .stmts (dBody 4), scope := dScope 4, globals := 0, closure := [], defaults := .none, kwdefaults := .none } }
noncomputable def o99 (P : PySem.Params) : Obj := { cls := .type "code", data := .fields #[.str "with_operands" 290, .str "with_operands" 291, .str "/claim/cut.py" 292, .int 44 0, .int 2 0, .int 0 0, .int 0 0, .int 3 0, .ref 94, .bool Bool.true, .int 181 0, .ref 95, .none, .ref 96, .ref 97, .ref 98, .int 296 0, .int 44 0, .str "/claim/cut.py" 297] }
noncomputable def o100 (P : PySem.Params) : Obj := { cls := .type "function", data := .func { name := "with_operands", qualname := "with_operands", params := dParams 4, body := .stmts (dBody 4), scope := dScope 4, globals := 3, closure := [], defaults := .none, kwdefaults := .none, pyModule := .str "lendcore.mir" 194, code := .ref 99 } }
noncomputable def o101 (P : PySem.Params) : Obj := { cls := .type "tuple", data := .seq #[.str "int" 301, .str "bool" 302] }
noncomputable def o104 (P : PySem.Params) : Obj := { cls := .type "tuple", data := .seq #[.str "body" 307, .str "found" 308, .str "local" 309, .str "statements" 310, .str "terminator" 311, .str "statement" 312] }
noncomputable def o106 (P : PySem.Params) : Obj := { cls := .none, data := .func { name := "lent_or_other", qualname := "lent_or_other", params := dParams 7, body := .stmts (dBody 7), scope := dScope 7, globals := 0, closure := [], defaults := .none, kwdefaults := .none } }
noncomputable def o107 (P : PySem.Params) : Obj := { cls := .type "code", data := .fields #[.str "lent_or_other" 304, .str "lent_or_other" 305, .str "/claim/cut.py" 306, .int 59 0, .int 1 0, .int 0 0, .int 0 0, .int 3 0, .ref 102, .bool Bool.true, .int 181 0, .ref 103, .none, .ref 104, .ref 105, .ref 106, .int 313 0, .int 59 0, .str "/claim/cut.py" 314] }
noncomputable def o108 (P : PySem.Params) : Obj := { cls := .type "function", data := .func { name := "lent_or_other", qualname := "lent_or_other", params := dParams 7, body := .stmts (dBody 7), scope := dScope 7, globals := 3, closure := [], defaults := .none, kwdefaults := .none, pyModule := .str "lendcore.copies" 299, code := .ref 107 } }
noncomputable def o111 (P : PySem.Params) : Obj := { cls := .type "tuple", data := .seq #[.str "operand" 319, .str "known" 320] }
noncomputable def o113 (P : PySem.Params) : Obj := { cls := .none, data := .func { name := "read_operand", qualname := "read_operand", params := dParams 8, body := .stmts (dBody 8), scope := dScope 8, globals := 0, closure := [], defaults := .none, kwdefaults := .none } }
noncomputable def o114 (P : PySem.Params) : Obj := { cls := .type "code", data := .fields #[.str "read_operand" 316, .str "read_operand" 317, .str "/claim/cut.py" 318, .int 69 0, .int 2 0, .int 0 0, .int 0 0, .int 3 0, .ref 109, .bool Bool.true, .int 181 0, .ref 110, .none, .ref 111, .ref 112, .ref 113, .int 321 0, .int 69 0, .str "/claim/cut.py" 322] }
noncomputable def o115 (P : PySem.Params) : Obj := { cls := .type "function", data := .func { name := "read_operand", qualname := "read_operand", params := dParams 8, body := .stmts (dBody 8), scope := dScope 8, globals := 3, closure := [], defaults := .none, kwdefaults := .none, pyModule := .str "lendcore.copies" 299, code := .ref 114 } }
noncomputable def o118 (P : PySem.Params) : Obj := { cls := .none, data := .func { name := "read_operands", qualname := "read_operands", params := dParams 9, body := .stmts (dBody 9), scope := dScope 9, globals := 0, closure := [], defaults := .none, kwdefaults := .none } }
noncomputable def o119 (P : PySem.Params) : Obj := { cls := .type "code", data := .fields #[.str "read_operands" 324, .str "read_operands" 325, .str "/claim/cut.py" 326, .int 73 0, .int 2 0, .int 0 0, .int 0 0, .int 3 0, .ref 116, .bool Bool.true, .int 181 0, .ref 117, .none, .none, .none, .ref 118, .int 327 0, .int 73 0, .str "/claim/cut.py" 328] }
noncomputable def o120 (P : PySem.Params) : Obj := { cls := .type "function", data := .func { name := "read_operands", qualname := "read_operands", params := dParams 9, body := .stmts (dBody 9), scope := dScope 9, globals := 3, closure := [], defaults := .none, kwdefaults := .none, pyModule := .str "lendcore.copies" 299, code := .ref 119 } }
noncomputable def o123 (P : PySem.Params) : Obj := { cls := .type "tuple", data := .seq #[.str "rvalue" 333, .str "known" 334] }
noncomputable def o125 (P : PySem.Params) : Obj := { cls := .none, data := .func { name := "read_rvalue", qualname := "read_rvalue", params := dParams 10, body := .stmts (dBody 10), scope := dScope 10, globals := 0, closure := [], defaults := .none, kwdefaults := .none } }
noncomputable def o126 (P : PySem.Params) : Obj := { cls := .type "code", data := .fields #[.str "read_rvalue" 330, .str "read_rvalue" 331, .str "/claim/cut.py" 332, .int 75 0, .int 2 0, .int 0 0, .int 0 0, .int 3 0, .ref 121, .bool Bool.true, .int 181 0, .ref 122, .none, .ref 123, .ref 124, .ref 125, .int 335 0, .int 75 0, .str "/claim/cut.py" 336] }
noncomputable def o127 (P : PySem.Params) : Obj := { cls := .type "function", data := .func { name := "read_rvalue", qualname := "read_rvalue", params := dParams 10, body := .stmts (dBody 10), scope := dScope 10, globals := 3, closure := [], defaults := .none, kwdefaults := .none, pyModule := .str "lendcore.copies" 299, code := .ref 126 } }
noncomputable def o130 (P : PySem.Params) : Obj := { cls := .type "tuple", data := .seq #[.str "statement" 341, .str "known" 342] }
noncomputable def o132 (P : PySem.Params) : Obj := { cls := .none, data := .func { name := "read_statement", qualname := "read_statement", params := dParams 11, body := .stmts (dBody 11), scope := dScope 11, globals := 0, closure := [], defaults := .none, kwdefaults := .none } }
noncomputable def o133 (P : PySem.Params) : Obj := { cls := .type "code", data := .fields #[.str "read_statement" 338, .str "read_statement" 339, .str "/claim/cut.py" 340, .int 77 0, .int 2 0, .int 0 0, .int 0 0, .int 3 0, .ref 128, .bool Bool.true, .int 181 0, .ref 129, .none, .ref 130, .ref 131, .ref 132, .int 343 0, .int 77 0, .str "/claim/cut.py" 344] }
noncomputable def o134 (P : PySem.Params) : Obj := { cls := .type "function", data := .func { name := "read_statement", qualname := "read_statement", params := dParams 11, body := .stmts (dBody 11), scope := dScope 11, globals := 3, closure := [], defaults := .none, kwdefaults := .none, pyModule := .str "lendcore.copies" 299, code := .ref 133 } }
noncomputable def o137 (P : PySem.Params) : Obj := { cls := .type "tuple", data := .seq #[.str "terminator" 349, .str "known" 350] }
noncomputable def o139 (P : PySem.Params) : Obj := { cls := .none, data := .func { name := "read_terminator", qualname := "read_terminator", params := dParams 12, body := .stmts (dBody 12), scope := dScope 12, globals := 0, closure := [], defaults := .none, kwdefaults := .none } }
noncomputable def o140 (P : PySem.Params) : Obj := { cls := .type "code", data := .fields #[.str "read_terminator" 346, .str "read_terminator" 347, .str "/claim/cut.py" 348, .int 83 0, .int 2 0, .int 0 0, .int 0 0, .int 3 0, .ref 135, .bool Bool.true, .int 181 0, .ref 136, .none, .ref 137, .ref 138, .ref 139, .int 351 0, .int 83 0, .str "/claim/cut.py" 352] }
noncomputable def o141 (P : PySem.Params) : Obj := { cls := .type "function", data := .func { name := "read_terminator", qualname := "read_terminator", params := dParams 12, body := .stmts (dBody 12), scope := dScope 12, globals := 3, closure := [], defaults := .none, kwdefaults := .none, pyModule := .str "lendcore.copies" 299, code := .ref 140 } }
noncomputable def o144 (P : PySem.Params) : Obj := { cls := .none, data := .func { name := "forget", qualname := "forget", params := dParams 13, body := .stmts (dBody 13), scope := dScope 13, globals := 0, closure := [], defaults := .none, kwdefaults := .none } }
noncomputable def o145 (P : PySem.Params) : Obj := { cls := .type "code", data := .fields #[.str "forget" 354, .str "forget" 355, .str "/claim/cut.py" 356, .int 89 0, .int 2 0, .int 0 0, .int 0 0, .int 3 0, .ref 142, .bool Bool.true, .int 181 0, .ref 143, .none, .none, .none, .ref 144, .int 357 0, .int 89 0, .str "/claim/cut.py" 358] }
noncomputable def o146 (P : PySem.Params) : Obj := { cls := .type "function", data := .func { name := "forget", qualname := "forget", params := dParams 13, body := .stmts (dBody 13), scope := dScope 13, globals := 3, closure := [], defaults := .none, kwdefaults := .none, pyModule := .str "lendcore.copies" 299, code := .ref 145 } }
noncomputable def o149 (P : PySem.Params) : Obj := { cls := .type "tuple", data := .seq #[.str "operands" 363, .str "known" 364, .str "operand" 365] }
noncomputable def o151 (P : PySem.Params) : Obj := { cls := .none, data := .func { name := "forget_moved", qualname := "forget_moved", params := dParams 14, body := .stmts (dBody 14), scope := dScope 14, globals := 0, closure := [], defaults := .none, kwdefaults := .none } }
noncomputable def o152 (P : PySem.Params) : Obj := { cls := .type "code", data := .fields #[.str "forget_moved" 360, .str "forget_moved" 361, .str "/claim/cut.py" 362, .int 93 0, .int 2 0, .int 0 0, .int 0 0, .int 3 0, .ref 147, .bool Bool.true, .int 181 0, .ref 148, .none, .ref 149, .ref 150, .ref 151, .int 366 0, .int 93 0, .str "/claim/cut.py" 367] }
noncomputable def o153 (P : PySem.Params) : Obj := { cls := .type "function", data := .func { name := "forget_moved", qualname := "forget_moved", params := dParams 14, body := .stmts (dBody 14), scope := dScope 14, globals := 3, closure := [], defaults := .none, kwdefaults := .none, pyModule := .str "lendcore.copies" 299, code := .ref 152 } }
noncomputable def o156 (P : PySem.Params) : Obj := { cls := .type "tuple", data := .seq #[.str "script" 374, .str "cell" 375, .str "great" 376] }
noncomputable def o158 (P : PySem.Params) : Obj := { cls := .none, data := .func { name := "_law_pool", qualname := "_law_pool", params := dParams 16, body := .stmts (dBody 16), scope := dScope 16, globals := 0, closure := [], defaults := .none, kwdefaults := .none } }
noncomputable def o159 (P : PySem.Params) : Obj := { cls := .type "code", data := .fields #[.str "_law_pool" 371, .str "_law_pool" 372, .str "/claim/cut.py" 373, .int 98 0, .int 1 0, .int 0 0, .int 0 0, .int 3 0, .ref 154, .bool Bool.true, .int 181 0, .ref 155, .none, .ref 156, .ref 157, .ref 158, .int 377 0, .int 98 0, .str "/claim/cut.py" 378] }
noncomputable def o160 (P : PySem.Params) : Obj := { cls := .type "function", data := .func { name := "_law_pool", qualname := "_law_pool", params := dParams 16, body := .stmts (dBody 16), scope := dScope 16, globals := 3, closure := [], defaults := .none, kwdefaults := .none, pyModule := .str "law_xm0584_01" 369, code := .ref 159 } }
noncomputable def o163 (P : PySem.Params) : Obj := { cls := .type "tuple", data := .seq #[.str "source" 383, .str "top" 384, .str "drawn" 385] }
noncomputable def o165 (P : PySem.Params) : Obj := { cls := .none, data := .func { name := "_law_take", qualname := "_law_take", params := dParams 17, body := .stmts (dBody 17), scope := dScope 17, globals := 0, closure := [], defaults := .none, kwdefaults := .none } }
noncomputable def o166 (P : PySem.Params) : Obj := { cls := .type "code", data := .fields #[.str "_law_take" 380, .str "_law_take" 381, .str "/claim/cut.py" 382, .int 102 0, .int 2 0, .int 0 0, .int 0 0, .int 3 0, .ref 161, .bool Bool.true, .int 181 0, .ref 162, .none, .ref 163, .ref 164, .ref 165, .int 386 0, .int 102 0, .str "/claim/cut.py" 387] }
noncomputable def o167 (P : PySem.Params) : Obj := { cls := .type "function", data := .func { name := "_law_take", qualname := "_law_take", params := dParams 17, body := .stmts (dBody 17), scope := dScope 17, globals := 3, closure := [], defaults := .none, kwdefaults := .none, pyModule := .str "law_xm0584_01" 369, code := .ref 166 } }
noncomputable def o170 (P : PySem.Params) : Obj := { cls := .type "tuple", data := .seq #[.str "source" 392, .str "things" 393] }
noncomputable def o172 (P : PySem.Params) : Obj := { cls := .none, data := .func { name := "_law_one", qualname := "_law_one", params := dParams 18, body := .stmts (dBody 18), scope := dScope 18, globals := 0, closure := [], defaults := .none, kwdefaults := .none } }
noncomputable def o173 (P : PySem.Params) : Obj := { cls := .type "code", data := .fields #[.str "_law_one" 389, .str "_law_one" 390, .str "/claim/cut.py" 391, .int 109 0, .int 2 0, .int 0 0, .int 0 0, .int 3 0, .ref 168, .bool Bool.true, .int 181 0, .ref 169, .none, .ref 170, .ref 171, .ref 172, .int 394 0, .int 109 0, .str "/claim/cut.py" 395] }
noncomputable def o174 (P : PySem.Params) : Obj := { cls := .type "function", data := .func { name := "_law_one", qualname := "_law_one", params := dParams 18, body := .stmts (dBody 18), scope := dScope 18, globals := 3, closure := [], defaults := .none, kwdefaults := .none, pyModule := .str "law_xm0584_01" 369, code := .ref 173 } }
noncomputable def o179 (P : PySem.Params) : Obj := { cls := .none, data := .func { name := "_law_u8", qualname := "_law_u8", params := dParams 19, body := .stmts (dBody 19), scope := dScope 19, globals := 0, closure := [], defaults := .none, kwdefaults := .none } }
noncomputable def o180 (P : PySem.Params) : Obj := { cls := .type "code", data := .fields #[.str "_law_u8" 397, .str "_law_u8" 398, .str "/claim/cut.py" 399, .int 111 0, .int 0 0, .int 0 0, .int 0 0, .int 3 0, .ref 175, .bool Bool.true, .int 181 0, .ref 176, .none, .ref 177, .ref 178, .ref 179, .int 400 0, .int 111 0, .str "/claim/cut.py" 401] }
noncomputable def o181 (P : PySem.Params) : Obj := { cls := .type "function", data := .func { name := "_law_u8", qualname := "_law_u8", params := dParams 19, body := .stmts (dBody 19), scope := dScope 19, globals := 3, closure := [], defaults := .none, kwdefaults := .none, pyModule := .str "law_xm0584_01" 369, code := .ref 180 } }
noncomputable def o184 (P : PySem.Params) : Obj := { cls := .type "tuple", data := .seq #[.str "source" 406, .str "known" 407, .str "way" 408, .str "local" 409, .str "operand" 410, .str "word" 411] }
noncomputable def o186 (P : PySem.Params) : Obj := { cls := .none, data := .func { name := "_law_twin", qualname := "_law_twin", params := dParams 20, body := .stmts (dBody 20), scope := dScope 20, globals := 0, closure := [], defaults := .none, kwdefaults := .none } }
noncomputable def o187 (P : PySem.Params) : Obj := { cls := .type "code", data := .fields #[.str "_law_twin" 403, .str "_law_twin" 404, .str "/claim/cut.py" 405, .int 113 0, .int 2 0, .int 0 0, .int 0 0, .int 3 0, .ref 182, .bool Bool.true, .int 181 0, .ref 183, .none, .ref 184, .ref 185, .ref 186, .int 412 0, .int 113 0, .str "/claim/cut.py" 413] }
noncomputable def o188 (P : PySem.Params) : Obj := { cls := .type "function", data := .func { name := "_law_twin", qualname := "_law_twin", params := dParams 20, body := .stmts (dBody 20), scope := dScope 20, globals := 3, closure := [], defaults := .none, kwdefaults := .none, pyModule := .str "law_xm0584_01" 369, code := .ref 187 } }
noncomputable def o191 (P : PySem.Params) : Obj := { cls := .type "tuple", data := .seq #[.str "ops" 418, .str "place" 419, .str "found" 420] }
noncomputable def o193 (P : PySem.Params) : Obj := { cls := .none, data := .func { name := "_law_rvalues", qualname := "_law_rvalues", params := dParams 21, body := .stmts (dBody 21), scope := dScope 21, globals := 0, closure := [], defaults := .none, kwdefaults := .none } }
noncomputable def o194 (P : PySem.Params) : Obj := { cls := .type "code", data := .fields #[.str "_law_rvalues" 415, .str "_law_rvalues" 416, .str "/claim/cut.py" 417, .int 124 0, .int 2 0, .int 0 0, .int 0 0, .int 3 0, .ref 189, .bool Bool.true, .int 181 0, .ref 190, .none, .ref 191, .ref 192, .ref 193, .int 421 0, .int 124 0, .str "/claim/cut.py" 422] }
noncomputable def o195 (P : PySem.Params) : Obj := { cls := .type "function", data := .func { name := "_law_rvalues", qualname := "_law_rvalues", params := dParams 21, body := .stmts (dBody 21), scope := dScope 21, globals := 3, closure := [], defaults := .none, kwdefaults := .none, pyModule := .str "law_xm0584_01" 369, code := .ref 194 } }
noncomputable def o198 (P : PySem.Params) : Obj := { cls := .type "tuple", data := .seq #[.str "ops" 427, .str "rvalue" 428, .str "place" 429, .str "found" 430] }
noncomputable def o200 (P : PySem.Params) : Obj := { cls := .none, data := .func { name := "_law_statements", qualname := "_law_statements", params := dParams 22, body := .stmts (dBody 22), scope := dScope 22, globals := 0, closure := [], defaults := .none, kwdefaults := .none } }
noncomputable def o201 (P : PySem.Params) : Obj := { cls := .type "code", data := .fields #[.str "_law_statements" 424, .str "_law_statements" 425, .str "/claim/cut.py" 426, .int 129 0, .int 3 0, .int 0 0, .int 0 0, .int 3 0, .ref 196, .bool Bool.true, .int 181 0, .ref 197, .none, .ref 198, .ref 199, .ref 200, .int 431 0, .int 129 0, .str "/claim/cut.py" 432] }
noncomputable def o202 (P : PySem.Params) : Obj := { cls := .type "function", data := .func { name := "_law_statements", qualname := "_law_statements", params := dParams 22, body := .stmts (dBody 22), scope := dScope 22, globals := 3, closure := [], defaults := .none, kwdefaults := .none, pyModule := .str "law_xm0584_01" 369, code := .ref 201 } }
noncomputable def o205 (P : PySem.Params) : Obj := { cls := .type "tuple", data := .seq #[.str "ops" 437, .str "place" 438, .str "found" 439] }
noncomputable def o207 (P : PySem.Params) : Obj := { cls := .none, data := .func { name := "_law_terminators", qualname := "_law_terminators", params := dParams 23, body := .stmts (dBody 23), scope := dScope 23, globals := 0, closure := [], defaults := .none, kwdefaults := .none } }
noncomputable def o208 (P : PySem.Params) : Obj := { cls := .type "code", data := .fields #[.str "_law_terminators" 434, .str "_law_terminators" 435, .str "/claim/cut.py" 436, .int 132 0, .int 2 0, .int 0 0, .int 0 0, .int 3 0, .ref 203, .bool Bool.true, .int 181 0, .ref 204, .none, .ref 205, .ref 206, .ref 207, .int 440 0, .int 132 0, .str "/claim/cut.py" 441] }
noncomputable def o209 (P : PySem.Params) : Obj := { cls := .type "function", data := .func { name := "_law_terminators", qualname := "_law_terminators", params := dParams 23, body := .stmts (dBody 23), scope := dScope 23, globals := 3, closure := [], defaults := .none, kwdefaults := .none, pyModule := .str "law_xm0584_01" 369, code := .ref 208 } }
noncomputable def o212 (P : PySem.Params) : Obj := { cls := .none, data := .func { name := "_law_reads_right", qualname := "_law_reads_right", params := dParams 24, body := .stmts (dBody 24), scope := dScope 24, globals := 0, closure := [], defaults := .none, kwdefaults := .none } }
noncomputable def o213 (P : PySem.Params) : Obj := { cls := .type "code", data := .fields #[.str "_law_reads_right" 443, .str "_law_reads_right" 444, .str "/claim/cut.py" 445, .int 136 0, .int 2 0, .int 0 0, .int 0 0, .int 3 0, .ref 210, .bool Bool.true, .int 181 0, .ref 211, .none, .none, .none, .ref 212, .int 446 0, .int 136 0, .str "/claim/cut.py" 447] }
noncomputable def o214 (P : PySem.Params) : Obj := { cls := .type "function", data := .func { name := "_law_reads_right", qualname := "_law_reads_right", params := dParams 24, body := .stmts (dBody 24), scope := dScope 24, globals := 3, closure := [], defaults := .none, kwdefaults := .none, pyModule := .str "law_xm0584_01" 369, code := .ref 213 } }
noncomputable def o217 (P : PySem.Params) : Obj := { cls := .none, data := .func { name := "_law_without", qualname := "_law_without", params := dParams 25, body := .stmts (dBody 25), scope := dScope 25, globals := 0, closure := [], defaults := .none, kwdefaults := .none } }
noncomputable def o218 (P : PySem.Params) : Obj := { cls := .type "code", data := .fields #[.str "_law_without" 449, .str "_law_without" 450, .str "/claim/cut.py" 451, .int 151 0, .int 2 0, .int 0 0, .int 0 0, .int 3 0, .ref 215, .bool Bool.true, .int 181 0, .ref 216, .none, .none, .none, .ref 217, .int 452 0, .int 151 0, .str "/claim/cut.py" 453] }
noncomputable def o219 (P : PySem.Params) : Obj := { cls := .type "function", data := .func { name := "_law_without", qualname := "_law_without", params := dParams 25, body := .stmts (dBody 25), scope := dScope 25, globals := 3, closure := [], defaults := .none, kwdefaults := .none, pyModule := .str "law_xm0584_01" 369, code := .ref 218 } }
noncomputable def o222 (P : PySem.Params) : Obj := { cls := .none, data := .func { name := "_law_forgets_right", qualname := "_law_forgets_right", params := dParams 26, body := .stmts (dBody 26), scope := dScope 26, globals := 0, closure := [], defaults := .none, kwdefaults := .none } }
noncomputable def o223 (P : PySem.Params) : Obj := { cls := .type "code", data := .fields #[.str "_law_forgets_right" 455, .str "_law_forgets_right" 456, .str "/claim/cut.py" 457, .int 153 0, .int 2 0, .int 0 0, .int 0 0, .int 3 0, .ref 220, .bool Bool.true, .int 181 0, .ref 221, .none, .none, .none, .ref 222, .int 458 0, .int 153 0, .str "/claim/cut.py" 459] }
noncomputable def o224 (P : PySem.Params) : Obj := { cls := .type "function", data := .func { name := "_law_forgets_right", qualname := "_law_forgets_right", params := dParams 26, body := .stmts (dBody 26), scope := dScope 26, globals := 3, closure := [], defaults := .none, kwdefaults := .none, pyModule := .str "law_xm0584_01" 369, code := .ref 223 } }
noncomputable def o227 (P : PySem.Params) : Obj := { cls := .none, data := .func { name := "_law_lent_right", qualname := "_law_lent_right", params := dParams 27, body := .stmts (dBody 27), scope := dScope 27, globals := 0, closure := [], defaults := .none, kwdefaults := .none } }
noncomputable def o228 (P : PySem.Params) : Obj := { cls := .type "code", data := .fields #[.str "_law_lent_right" 461, .str "_law_lent_right" 462, .str "/claim/cut.py" 463, .int 161 0, .int 1 0, .int 0 0, .int 0 0, .int 3 0, .ref 225, .bool Bool.true, .int 181 0, .ref 226, .none, .none, .none, .ref 227, .int 464 0, .int 161 0, .str "/claim/cut.py" 465] }
noncomputable def o229 (P : PySem.Params) : Obj := { cls := .type "function", data := .func { name := "_law_lent_right", qualname := "_law_lent_right", params := dParams 27, body := .stmts (dBody 27), scope := dScope 27, globals := 3, closure := [], defaults := .none, kwdefaults := .none, pyModule := .str "law_xm0584_01" 369, code := .ref 228 } }
noncomputable def o232 (P : PySem.Params) : Obj := { cls := .type "tuple", data := .seq #[.str "script" 470, .str "part" 471, .str "source" 472, .str "known" 473, .str "turn" 474, .str "local" 475, .str "other" 476] }
noncomputable def o234 (P : PySem.Params) : Obj := { cls := .none, data := .func { name := "law", qualname := "law", params := dParams 28, body := .stmts (dBody 28), scope := dScope 28, globals := 0, closure := [], defaults := .none, kwdefaults := .none } }
noncomputable def o235 (P : PySem.Params) : Obj := { cls := .type "code", data := .fields #[.str "law" 467, .str "law" 468, .str "/claim/cut.py" 469, .int 176 0, .int 1 0, .int 0 0, .int 0 0, .int 3 0, .ref 230, .bool Bool.true, .int 181 0, .ref 231, .none, .ref 232, .ref 233, .ref 234, .int 477 0, .int 176 0, .str "/claim/cut.py" 478] }
noncomputable def o236 (P : PySem.Params) : Obj := { cls := .type "function", data := .func { name := "law", qualname := "law", params := dParams 28, body := .stmts (dBody 28), scope := dScope 28, globals := 3, closure := [], defaults := .none, kwdefaults := .none, pyModule := .str "law_xm0584_01" 369, code := .ref 235 } }
noncomputable def dA (P : PySem.Params) : Obj := { cls := .type "dict", data := .dict #[{ hash := PyData.keyHash P "__name__", key := .str "__name__" 165, val := .str "lendcore.mir" 194 }, { hash := PyData.keyHash P "__doc__", key := .str "__doc__" 166, val := .none }, { hash := PyData.keyHash P "__package__", key := .str "__package__" 167, val := .none }, { hash := PyData.keyHash P "__loader__", key := .str "__loader__" 168, val := .builtin "__main__.__loader__#opaque" }, { hash := PyData.keyHash P "__spec__", key := .str "__spec__" 169, val := .none }, { hash := PyData.keyHash P "__annotations__", key := .str "__annotations__" 170, val := .ref 6 }, { hash := PyData.keyHash P "__builtins__", key := .str "__builtins__" 171, val := .ref 4 }, { hash := PyData.keyHash P "__file__", key := .str "__file__" 173, val := .str "/claim/cut.py" 172 }, { hash := PyData.keyHash P "__cached__", key := .str "__cached__" 174, val := .none }, { hash := PyData.keyHash P "_wall", key := .str "_wall" 193, val := .ref 21 }, { hash := PyData.keyHash P "Body", key := .str "Body" 281, val := .ref 82 }] 11 }
noncomputable def dB (P : PySem.Params) : Obj := { cls := .type "dict", data := .dict #[{ hash := PyData.keyHash P "__name__", key := .str "__name__" 165, val := .str "lendcore.copies" 299 }, { hash := PyData.keyHash P "__doc__", key := .str "__doc__" 166, val := .none }, { hash := PyData.keyHash P "__package__", key := .str "__package__" 167, val := .none }, { hash := PyData.keyHash P "__loader__", key := .str "__loader__" 168, val := .builtin "__main__.__loader__#opaque" }, { hash := PyData.keyHash P "__spec__", key := .str "__spec__" 169, val := .none }, { hash := PyData.keyHash P "__annotations__", key := .str "__annotations__" 170, val := .ref 6 }, { hash := PyData.keyHash P "__builtins__", key := .str "__builtins__" 171, val := .ref 4 }, { hash := PyData.keyHash P "__file__", key := .str "__file__" 173, val := .str "/claim/cut.py" 172 }, { hash := PyData.keyHash P "__cached__", key := .str "__cached__" 174, val := .none }, { hash := PyData.keyHash P "_wall", key := .str "_wall" 193, val := .ref 21 }, { hash := PyData.keyHash P "Body", key := .str "Body" 281, val := .ref 82 }, { hash := PyData.keyHash P "operands_of", key := .str "operands_of" 289, val := .ref 93 }, { hash := PyData.keyHash P "with_operands", key := .str "with_operands" 298, val := .ref 100 }, { hash := PyData.keyHash P "PLAIN", key := .str "PLAIN" 303, val := .ref 101 }, { hash := PyData.keyHash P "lent_or_other", key := .str "lent_or_other" 315, val := .ref 108 }, { hash := PyData.keyHash P "read_operand", key := .str "read_operand" 323, val := .ref 115 }, { hash := PyData.keyHash P "read_operands", key := .str "read_operands" 329, val := .ref 120 }, { hash := PyData.keyHash P "read_rvalue", key := .str "read_rvalue" 337, val := .ref 127 }, { hash := PyData.keyHash P "read_statement", key := .str "read_statement" 345, val := .ref 134 }, { hash := PyData.keyHash P "read_terminator", key := .str "read_terminator" 353, val := .ref 141 }, { hash := PyData.keyHash P "forget", key := .str "forget" 359, val := .ref 146 }] 21 }
noncomputable def dC (P : PySem.Params) : Obj := { cls := .type "dict", data := .dict #[{ hash := PyData.keyHash P "__name__", key := .str "__name__" 165, val := .str "law_xm0584_01" 369 }, { hash := PyData.keyHash P "__doc__", key := .str "__doc__" 166, val := .none }, { hash := PyData.keyHash P "__package__", key := .str "__package__" 167, val := .none }, { hash := PyData.keyHash P "__loader__", key := .str "__loader__" 168, val := .builtin "__main__.__loader__#opaque" }, { hash := PyData.keyHash P "__spec__", key := .str "__spec__" 169, val := .none }, { hash := PyData.keyHash P "__annotations__", key := .str "__annotations__" 170, val := .ref 6 }, { hash := PyData.keyHash P "__builtins__", key := .str "__builtins__" 171, val := .ref 4 }, { hash := PyData.keyHash P "__file__", key := .str "__file__" 173, val := .str "/claim/cut.py" 172 }, { hash := PyData.keyHash P "__cached__", key := .str "__cached__" 174, val := .none }, { hash := PyData.keyHash P "_wall", key := .str "_wall" 193, val := .ref 21 }, { hash := PyData.keyHash P "Body", key := .str "Body" 281, val := .ref 82 }, { hash := PyData.keyHash P "operands_of", key := .str "operands_of" 289, val := .ref 93 }, { hash := PyData.keyHash P "with_operands", key := .str "with_operands" 298, val := .ref 100 }, { hash := PyData.keyHash P "PLAIN", key := .str "PLAIN" 303, val := .ref 101 }, { hash := PyData.keyHash P "lent_or_other", key := .str "lent_or_other" 315, val := .ref 108 }, { hash := PyData.keyHash P "read_operand", key := .str "read_operand" 323, val := .ref 115 }, { hash := PyData.keyHash P "read_operands", key := .str "read_operands" 329, val := .ref 120 }, { hash := PyData.keyHash P "read_rvalue", key := .str "read_rvalue" 337, val := .ref 127 }, { hash := PyData.keyHash P "read_statement", key := .str "read_statement" 345, val := .ref 134 }, { hash := PyData.keyHash P "read_terminator", key := .str "read_terminator" 353, val := .ref 141 }, { hash := PyData.keyHash P "forget", key := .str "forget" 359, val := .ref 146 }, { hash := PyData.keyHash P "forget_moved", key := .str "forget_moved" 368, val := .ref 153 }, { hash := PyData.keyHash P "_law_pool", key := .str "_law_pool" 379, val := .ref 160 }, { hash := PyData.keyHash P "_law_take", key := .str "_law_take" 388, val := .ref 167 }, { hash := PyData.keyHash P "_law_one", key := .str "_law_one" 396, val := .ref 174 }, { hash := PyData.keyHash P "_law_u8", key := .str "_law_u8" 402, val := .ref 181 }, { hash := PyData.keyHash P "_law_twin", key := .str "_law_twin" 414, val := .ref 188 }, { hash := PyData.keyHash P "_law_rvalues", key := .str "_law_rvalues" 423, val := .ref 195 }, { hash := PyData.keyHash P "_law_statements", key := .str "_law_statements" 433, val := .ref 202 }, { hash := PyData.keyHash P "_law_terminators", key := .str "_law_terminators" 442, val := .ref 209 }, { hash := PyData.keyHash P "_law_reads_right", key := .str "_law_reads_right" 448, val := .ref 214 }, { hash := PyData.keyHash P "_law_without", key := .str "_law_without" 454, val := .ref 219 }, { hash := PyData.keyHash P "_law_forgets_right", key := .str "_law_forgets_right" 460, val := .ref 224 }, { hash := PyData.keyHash P "_law_lent_right", key := .str "_law_lent_right" 466, val := .ref 229 }, { hash := PyData.keyHash P "law", key := .str "law" 479, val := .ref 236 }] 35 }
noncomputable def tA (P : PySem.Params) : Obj := { cls := .none, data := .fields #[.int 1 0, .int 0 0, .ref 20, .int 5 0, .int 0 0, .ref 27] }
noncomputable def tB (P : PySem.Params) : Obj := { cls := .none, data := .fields #[.int 1 0, .int 0 0, .ref 20, .int 5 0, .int 0 0, .ref 27, .int 31 0, .int 0 0, .ref 92, .int 44 0, .int 0 0, .ref 99, .int 59 0, .int 0 0, .ref 107, .int 69 0, .int 0 0, .ref 114, .int 73 0, .int 0 0, .ref 119, .int 75 0, .int 0 0, .ref 126, .int 77 0, .int 0 0, .ref 133, .int 83 0, .int 0 0, .ref 140, .int 89 0, .int 0 0, .ref 145] }
noncomputable def tC (P : PySem.Params) : Obj := { cls := .none, data := .fields #[.int 1 0, .int 0 0, .ref 20, .int 5 0, .int 0 0, .ref 27, .int 31 0, .int 0 0, .ref 92, .int 44 0, .int 0 0, .ref 99, .int 59 0, .int 0 0, .ref 107, .int 69 0, .int 0 0, .ref 114, .int 73 0, .int 0 0, .ref 119, .int 75 0, .int 0 0, .ref 126, .int 77 0, .int 0 0, .ref 133, .int 83 0, .int 0 0, .ref 140, .int 89 0, .int 0 0, .ref 145, .int 93 0, .int 0 0, .ref 152, .int 98 0, .int 0 0, .ref 159, .int 102 0, .int 0 0, .ref 166, .int 109 0, .int 0 0, .ref 173, .int 111 0, .int 0 0, .ref 180, .int 113 0, .int 0 0, .ref 187, .int 124 0, .int 0 0, .ref 194, .int 129 0, .int 0 0, .ref 201, .int 132 0, .int 0 0, .ref 208, .int 136 0, .int 0 0, .ref 213, .int 151 0, .int 0 0, .ref 218, .int 153 0, .int 0 0, .ref 223, .int 161 0, .int 0 0, .ref 228, .int 176 0, .int 0 0, .ref 235] }
noncomputable def hS (P : PySem.Params) : Heap := ⟨⟨[boot_o_0 P, boot_o_1 P, boot_o_2 P, boot_o_3 P, boot_o_4 P, boot_o_5 P, boot_o_6 P, boot_o_7 P, boot_o_8 P, boot_o_9 P, boot_o_10 P, o11 P, o16 P, o13 P, o14 P]⟩, {}⟩
noncomputable def hA (P : PySem.Params) : Heap := ⟨⟨[boot_o_0 P, boot_o_1 P, boot_o_2 P, dA P, boot_o_4 P, boot_o_5 P, boot_o_6 P, boot_o_7 P, boot_o_8 P, boot_o_9 P, boot_o_10 P, o11 P, tA P, o13 P, o14 P, o11 P, o16 P, o17 P, o11 P, o19 P, o20 P, o21 P, o11 P, o23 P, o24 P, o11 P, o26 P, o27 P, o28 P, o29 P, o11 P, o16 P, o32 P, o11 P, o34 P, o35 P, o36 P, o11 P, o16 P, o39 P, o11 P, o41 P, o42 P, o43 P, o11 P, o16 P, o46 P, o11 P, o48 P, o49 P, o50 P, o11 P, o16 P, o53 P, o11 P, o55 P, o56 P, o57 P, o11 P, o16 P, o60 P, o11 P, o62 P, o63 P, o64 P, o11 P, o16 P, o67 P, o11 P, o69 P, o70 P, o71 P, o72 P, o11 P, o16 P, o75 P, o11 P, o77 P, o78 P, o79 P, o80 P, o81 P, o82 P, o83 P, o84 P, o85 P, o86 P]⟩, {}⟩
noncomputable def hB (P : PySem.Params) : Heap := ⟨⟨[boot_o_0 P, boot_o_1 P, boot_o_2 P, dB P, boot_o_4 P, boot_o_5 P, boot_o_6 P, boot_o_7 P, boot_o_8 P, boot_o_9 P, boot_o_10 P, o11 P, tB P, o13 P, o14 P, o11 P, o16 P, o17 P, o11 P, o19 P, o20 P, o21 P, o11 P, o23 P, o24 P, o11 P, o26 P, o27 P, o28 P, o29 P, o11 P, o16 P, o32 P, o11 P, o34 P, o35 P, o36 P, o11 P, o16 P, o39 P, o11 P, o41 P, o42 P, o43 P, o11 P, o16 P, o46 P, o11 P, o48 P, o49 P, o50 P, o11 P, o16 P, o53 P, o11 P, o55 P, o56 P, o57 P, o11 P, o16 P, o60 P, o11 P, o62 P, o63 P, o64 P, o11 P, o16 P, o67 P, o11 P, o69 P, o70 P, o71 P, o72 P, o11 P, o16 P, o75 P, o11 P, o77 P, o78 P, o79 P, o80 P, o81 P, o82 P, o83 P, o84 P, o85 P, o86 P, o11 P, o16 P, o89 P, o11 P, o91 P, o92 P, o93 P, o11 P, o16 P, o96 P, o11 P, o98 P, o99 P, o100 P, o101 P, o11 P, o16 P, o104 P, o11 P, o106 P, o107 P, o108 P, o11 P, o16 P, o111 P, o11 P, o113 P, o114 P, o115 P, o11 P, o16 P, o118 P, o119 P, o120 P, o11 P, o16 P, o123 P, o11 P, o125 P, o126 P, o127 P, o11 P, o16 P, o130 P, o11 P, o132 P, o133 P, o134 P, o11 P, o16 P, o137 P, o11 P, o139 P, o140 P, o141 P, o11 P, o16 P, o144 P, o145 P, o146 P]⟩, {}⟩
noncomputable def hC (P : PySem.Params) : Heap := ⟨⟨[boot_o_0 P, boot_o_1 P, boot_o_2 P, dC P, boot_o_4 P, boot_o_5 P, boot_o_6 P, boot_o_7 P, boot_o_8 P, boot_o_9 P, boot_o_10 P, o11 P, tC P, o13 P, o14 P, o11 P, o16 P, o17 P, o11 P, o19 P, o20 P, o21 P, o11 P, o23 P, o24 P, o11 P, o26 P, o27 P, o28 P, o29 P, o11 P, o16 P, o32 P, o11 P, o34 P, o35 P, o36 P, o11 P, o16 P, o39 P, o11 P, o41 P, o42 P, o43 P, o11 P, o16 P, o46 P, o11 P, o48 P, o49 P, o50 P, o11 P, o16 P, o53 P, o11 P, o55 P, o56 P, o57 P, o11 P, o16 P, o60 P, o11 P, o62 P, o63 P, o64 P, o11 P, o16 P, o67 P, o11 P, o69 P, o70 P, o71 P, o72 P, o11 P, o16 P, o75 P, o11 P, o77 P, o78 P, o79 P, o80 P, o81 P, o82 P, o83 P, o84 P, o85 P, o86 P, o11 P, o16 P, o89 P, o11 P, o91 P, o92 P, o93 P, o11 P, o16 P, o96 P, o11 P, o98 P, o99 P, o100 P, o101 P, o11 P, o16 P, o104 P, o11 P, o106 P, o107 P, o108 P, o11 P, o16 P, o111 P, o11 P, o113 P, o114 P, o115 P, o11 P, o16 P, o118 P, o119 P, o120 P, o11 P, o16 P, o123 P, o11 P, o125 P, o126 P, o127 P, o11 P, o16 P, o130 P, o11 P, o132 P, o133 P, o134 P, o11 P, o16 P, o137 P, o11 P, o139 P, o140 P, o141 P, o11 P, o16 P, o144 P, o145 P, o146 P, o11 P, o16 P, o149 P, o11 P, o151 P, o152 P, o153 P, o11 P, o16 P, o156 P, o11 P, o158 P, o159 P, o160 P, o11 P, o16 P, o163 P, o11 P, o165 P, o166 P, o167 P, o11 P, o16 P, o170 P, o11 P, o172 P, o173 P, o174 P, o11 P, o16 P, o11 P, o11 P, o179 P, o180 P, o181 P, o11 P, o16 P, o184 P, o11 P, o186 P, o187 P, o188 P, o11 P, o16 P, o191 P, o11 P, o193 P, o194 P, o195 P, o11 P, o16 P, o198 P, o11 P, o200 P, o201 P, o202 P, o11 P, o16 P, o205 P, o11 P, o207 P, o208 P, o209 P, o11 P, o16 P, o212 P, o213 P, o214 P, o11 P, o16 P, o217 P, o218 P, o219 P, o11 P, o16 P, o222 P, o223 P, o224 P, o11 P, o16 P, o227 P, o228 P, o229 P, o11 P, o16 P, o232 P, o11 P, o234 P, o235 P, o236 P]⟩, {}⟩

noncomputable def stA (h : PySem.Params → Heap) (k : Nat) (w : World) (os : OsState) : Shared := ⟨h w.params, #[], boot_drawn, k, os⟩
noncomputable def tEnv : Env := { scope := PySem.Challenge.pw_xm0584_01.main.scope, locals := mainNs, globals := mainNs, cells := [], code := .ref 13, frame := some 14 }
noncomputable def g1 : List Stmt := tops.take 3
noncomputable def g2 : List Stmt := (tops.drop 3).take 11
noncomputable def g3 : List Stmt := tops.drop 14
noncomputable def gAll : List Stmt := g1 ++ (g2 ++ (g3 ++ []))
noncomputable def cT : Code := .body gAll tEnv
abbrev pos0 : Pos := { line := 0, col := 0, endLine := 0, endCol := 0 }
abbrev posA : Pos := { line := 5, col := 0, endLine := 30, endCol := 16 }
abbrev posB : Pos := { line := 89, col := 0, endLine := 92, endCol := 24 }
abbrev posC : Pos := { line := 176, col := 0, endLine := 184, endCol := 108 }
abbrev pw := PySem.Challenge.pw_xm0584_01
theorem h_size (w : World) : ((boot_heap w.params).isNs mainGlobals && (#[] : Array GenState).size == 0, (boot_heap w.params).objs.size, (boot_heap w.params).nsMap mainGlobals "__annotations__") = (true, 11, some (.ref 6)) := by kernel_rfl
theorem h_pre (w : World) (os : OsState) : topGo treeTable pw w 11 (some (.ref 6)) 12 (stA boot_heap boot_toks w os) (topStub pw) = some (stA hS 187 w os, ⟨denote treeTable (.body gAll tEnv), cT, pos0, [topFrame pos0]⟩) := by kernel_rfl
theorem h_blk (w : World) (os : OsState) : segRun treeTable pw w 11 (some (.ref 6)) 1 1 (stA hS 187 w os) (blockOf gAll tEnv cT pos0 [topFrame pos0]) = some (.next, stA hS 187 w os, cT, pos0) := by kernel_rfl
theorem h_p1 (w : World) (os : OsState) : segRun treeTable pw w 11 (some (.ref 6)) 1 464 (stA hS 187 w os) (piecesOf g1 tEnv cT pos0 [topFrame pos0]) = some (.next, stA hA 282 w os, cT, posA) := by kernel_rfl
theorem h_p2 (w : World) (os : OsState) : segRun treeTable pw w 11 (some (.ref 6)) 1 289 (stA hA 282 w os) (piecesOf g2 tEnv cT posA [topFrame pos0]) = some (.next, stA hB 360 w os, cT, posB) := by kernel_rfl
theorem h_p3 (w : World) (os : OsState) : segRun treeTable pw w 11 (some (.ref 6)) 1 428 (stA hB 360 w os) (piecesOf g3 tEnv cT posB [topFrame pos0]) = some (.next, stA hC 480 w os, cT, posC) := by kernel_rfl
theorem h_fin (w : World) (os : OsState) : topRun treeTable pw w 11 (some (.ref 6)) 2 (stA hC 480 w os) ⟨doneF .next, cT, posC, [topFrame pos0]⟩ = some (stA hC 480 w os) := by kernel_rfl
theorem h_run (w : World) (os : OsState) : topRun treeTable pw w 11 (some (.ref 6)) (12 + (1 + (464 + (289 + (428 + 2))))) (stA boot_heap boot_toks w os) (topStub pw) = some (stA hC 480 w os) :=
  go_top (h_pre w os) (piece_block (h_blk w os) (piece_app (h_p1 w os) (piece_app (h_p2 w os) (piece_app (h_p3 w os) (piece_nil (h_fin w os))))))
noncomputable abbrev hXt : Shared → Bool := fun s => xlAt qView [] s && recOk (RowW.records (OpenRow.toRowW (OpenLaw.row PySem.Challenge.rw_xm0584_01))) s
theorem h_l1 (w : World) (os : OsState) : (staticsOk (importedModules pw.main.body) (boot_heap w.params) (hC w.params) && namesBound pw (hC w.params) && gensDone (stA hC 480 w os) && laidKept (boot_heap w.params) (hC w.params)) = true := by kernel_rfl
theorem h_l2 (w : World) (os : OsState) : openSeen qView [] (importedModules pw.main.body) hXt true (stA hC 480 w os) = openGood qView [] := by kernel_rfl
theorem h_l3 (w : World) (os : OsState) : Hook.obs (kHook K kAs k_as) (stA hC 480 w os) = Hook.val (kHook K kAs k_as) w := by kernel_rfl
theorem h_same : opening pw = plainProg pw.main.scope.names := by kernel_rfl
theorem h_fence (s : Shared) : fenceModules? pw s = some s := by kernel_rfl
theorem h_left : LeftO PySem.Challenge.pw_xm0584_01 qView [] hXt (Hook.obs (kHook K kAs k_as)) (Hook.val (kHook K kAs k_as)) 2482 :=
  LeftO.of_pieces (boot_open (p := pw) (N := 2482) h_same rfl h_fence) h_size h_run rfl fun w => funext fun os => Prod.ext (h_l1 w os) (Prod.ext (h_l2 w os) (h_l3 w os))

theorem j_rec : recsOf qView = recAt (0, "_wall") :: (defTable.map recAt ++ [recAt (28, "law")]) := by kernel_rfl!
theorem j_free (P : PySem.Params) : ∀ x ∈ (["max", "int", "len", "list", "tuple", "range", "dict", "sorted"] : List Str), nsIn (K P) mainGlobals x = some none := by
  intro x hx
  simp only [List.mem_cons, List.not_mem_nil, or_false] at hx
  rcases hx with rfl | rfl | rfl | rfl | rfl | rfl | rfl | rfl <;> kernel_rfl!
theorem j_body (P : PySem.Params) : nsIn (K P) mainGlobals "Body" = some (some (.ref 82)) := by kernel_rfl!
theorem j_keep (P : PySem.Params) : keepIn (K P) (.ref 82) = true := by kernel_rfl!
theorem j_mks (P : PySem.Params) : makesIn (K P) 82 = true := by kernel_rfl!
theorem j_ini (P : PySem.Params) : findIn (K P) (.ref 82) "__init__" = some (some (.ref 36)) := by kernel_rfl!
theorem j_isfn (P : PySem.Params) : typeIn (K P) (.ref 36) = some (.type "function") := by kernel_rfl!
theorem j_ga (P : PySem.Params) : findIn (K P) (.ref 82) "__getattribute__" = some (some (.builtin "object.__getattribute__")) := by kernel_rfl!
theorem j_sa (P : PySem.Params) : findIn (K P) (.ref 82) "__setattr__" = some (some (.builtin "object.__setattr__")) := by kernel_rfl!
theorem j_po (P : PySem.Params) : plainOver (K P) 82 = true := by kernel_rfl!
theorem j_hd (P : PySem.Params) : hasDictIn (K P) 82 = true := by kernel_rfl!
theorem j_no (P : PySem.Params) : ∀ x ∈ (["name", "arg_count", "locals", "blocks", "spots"] : List Str), findIn (K P) (.ref 82) x = some none := by
  intro x hx
  simp only [List.mem_cons, List.not_mem_nil, or_false] at hx
  rcases hx with rfl | rfl | rfl | rfl | rfl <;> kernel_rfl!
theorem j_plain (P : PySem.Params) : ∃ a t u n, nsIn (K P) mainGlobals "PLAIN" = some (some (.ref a)) ∧ (K P).lookup a = some { cls := .type "tuple", dict := none, data := .seq [Value.str "int" t, Value.str "bool" u].toArray n, slots := #[] } := by
  refine ⟨_, _, _, _, by rfl, by rfl⟩
theorem j_init (P : PySem.Params) : ∃ oc od T kV doc pm an cdv ct osl oT n, (K P).lookup 36 = some ⟨oc, od, .func (fnOf "__init__" "Body.__init__" iParams iBody iScope (.ref T) kV doc pm an cdv ct), osl⟩ ∧ codeIn (K P) cdv "Body.__init__" = true ∧ (K P).lookup T = some oT ∧ oT.data = .seq #[.none, .none] n := by
  refine ⟨_, _, _, _, _, _, _, _, _, _, _, _, by rfl, by kernel_rfl!, by rfl, by rfl⟩

theorem j_bodyC {prog : Program} {w : World} {h : Heap} {mg mb : Str → Option Value} {P : PySem.Params} (KX : (K P).In h) (G : h.Ns mainGlobals mg) : BodyC ⟨prog, w, h, mg, mb⟩ (K P) 82 36 :=
  ⟨KX, mgK KX G (j_body P), j_keep P, j_mks P, j_ini P, j_isfn P, j_ga P, j_sa P, j_po P, j_hd P, j_no P⟩
theorem j_bodyF {prog : Program} {w : World} {h : Heap} {mg mb : Str → Option Value} {P : PySem.Params} (KX : (K P).In h) : BodyF ⟨prog, w, h, mg, mb⟩ 36 := by
  obtain ⟨oc, od, T, kV, doc, pm, an, cdv, ct, osl, oT, n, h1, h2, h3, h4⟩ := j_init P
  exact ⟨oc, od, T, kV, doc, pm, an, cdv, ct, osl, oT, n, KX _ _ h1, codeRec_of KX h2, KX _ _ h3, h4⟩
theorem j_pl {prog : Program} {w : World} {h : Heap} {mg mb : Str → Option Value} {P : PySem.Params} (KX : (K P).In h) (G : h.Ns mainGlobals mg) : ∃ v, mg "PLAIN" = some v ∧ RV ⟨prog, w, h, mg, mb⟩ h (fun _ => none) (fun _ => False) v (.tup [.str "int", .str "bool"]) := by
  obtain ⟨a, t, u, n, h1, h2⟩ := j_plain P
  exact ⟨.ref a, mgK KX G h1, .tup (KX _ _ h2) ⟨rfl, id⟩ (.cons (.str _ _) (.cons (.str _ _) .nil))⟩
theorem j_kind : (dScope 28).kind = .function := by kernel_rfl!
theorem j_nc : ∀ y ∈ (dScope 28).names, y.2 ≠ .cell := by
  have z : ((dScope 28).names.all fun y => y.2 != .cell) = true := by kernel_rfl!
  intro y hy
  simpa using List.all_eq_true.mp z y hy
theorem j_finish {prog : Program} {w : World} {h : Heap} {mg mb : Str → Option Value} {P : PySem.Params} {p : Program} {loose : List Str} {mean : ExcName → Option Value} (hp : p = qView) (T : Top p loose mean mg mb h) (KX : (K P).In h) {s : Shared} {L fa sc : Addr} {cd : Value} {m : Str → Option Value} {ns : List Int} {Pw : PySem.Params}
    {Q : Flow → Shared → Prop} {E : Value → Shared → Prop} (W : Well Pw h (.ref sc) (ofPy (.list (ns.map PyData.int)))) (hn : ¬ (63 : Int) < (ns.length : Int)) (F : Fr h L s.heap m) (hL : L = h.objs.size) (hm : m "script" = some (.ref sc))
    (hQ : ∀ s' m', Fr h L s'.heap m' → s'.gens = s.gens → s'.os = s.os → Q (.ret (.bool true)) s') :
    wpAny (model prog w) (callerA.deeper (envOf "law" (dScope 28) L fa cd)) (execs (dBody 28) (envOf "law" (dScope 28) L fa cd)) Q E s := by
  subst hp
  have g : Prg ⟨prog, w, h, mg, mb⟩ := prg_of T KX j_rec (j_free P)
  exact @finish ⟨prog, w, h, mg, mb⟩ (dBody 28) (dScope 28) g.ok j_kind j_nc s L fa cd m ns (.ref sc) Q E (fun X => @law_walk _ 20 g _ _ _ (j_bodyC KX T.g) (j_bodyF KX) (j_pl KX T.g) X ns (by omega)) F (by rw [hL]; exact get?_size h) hm (script_rv W) hQ

end Mine

theorem PySem.Challenge.cw_xm0584_01_holds : PySem.Challenge.rw_xm0584_01.Holds := by
  w_on
  o_law
  refine holds_open (q := Mine.qView) (loose := []) (Xt := fun s => xlAt Mine.qView [] s && recOk (RowW.records (OpenRow.toRowW (OpenLaw.row PySem.Challenge.rw_xm0584_01))) s) (XP := XL Mine.qView []) (Yf := Hook.obs (kHook Mine.K Mine.kAs Mine.k_as)) (Ya := Hook.val (kHook Mine.K Mine.kAs Mine.k_as)) (YP := Hook.says (kHook Mine.K Mine.kAs Mine.k_as)) (N := 2482) Mine.h_left (Hook.of (kHook Mine.K Mine.kAs Mine.k_as)) (Hook.keeps (kHook Mine.K Mine.kAs Mine.k_as)) (fun s e => xl_of s (Bool.and_eq_true_iff.mp e).1) XL.keeps (by rfl) (by rfl) (by rfl) (fun s e => recFacts_of (Bool.and_eq_true_iff.mp e).2) (by rfl) (by first | assumption | decide +kernel) (by decide +kernel) ⟨rfl, rfl, rfl, rfl, rfl, by decide +kernel⟩ ?hw ?hc
  case hw => w_witness2
  intro w s₀ s₁ mg mb G Y fa o pm cd doc dV kV ho hd hcd hD hmg hg args vals as hpre hlay hrd hwl hlo
  have KX := kIn_of Y
  k_behind G ho hd hcd hD hmg hpre hlay hrd hwl hlo cd
  have T := ‹Top _ _ _ _ _ _›
  have KX := ‹Frag.In _ _›
  have F := ‹Fr _ _ _ _›
  have WL := ‹Well _ _ _ (ofPy (.list (List.map _ _)))›
  have hn := ‹¬ (63 : Int) < _›
  have hg := ‹_ = (#[] : Array GenState)›
  refine @Mine.j_finish _ _ _ _ _ _ _ _ _ rfl T KX _ _ _ _ _ _ _ _ _ _ WL hn F rfl rfl (fun s' m' F' hg' hos => ?_)
  refine goodW_bool F' (hg'.trans hg) (fun _ => rfl) ?_ hos
  first | kc_post | wrow_post
