import PyProof.Rows.All
import Wide.All
import OpenK.AllK
import Wide.FinOn
import PySem.Challenge.RW_pb0318_01
open PySem PySem.W PyProof.Rows PySem.Spec PySem.Calls
set_option Elab.async false
set_option maxRecDepth 100000
set_option linter.unusedVariables false
namespace Mine

/-! # part A -/
section

/-- a part of a heap -/
abbrev PH := Addr → Option Obj
abbrev LO (vs : List Value) (n : Nat) : Obj := { cls := .type "list", data := .seq vs.toArray n }
abbrev TO (vs : List Value) (n : Nat) : Obj := { cls := .type "tuple", data := .seq vs.toArray n }

mutual
/-- a value reads as a datum, its objects in the part `z` -/
inductive Rd (z : PH) : Value → PyData → Prop
  | none : Rd z .none .none
  | bool (b : Bool) : Rd z (.bool b) (.bool b)
  | int (i : Int) (t : Tok) : Rd z (.int i t) (.int i)
  | str (x : Str) (t : Tok) : Rd z (.str x t) (.str x)
  | list {a : Addr} {vs : List Value} {n : Nat} {ds : List PyData} : z a = some (LO vs n) → RdAll z vs ds → Rd z (.ref a) (.list ds)
  | tuple {a : Addr} {vs : List Value} {n : Nat} {ds : List PyData} : z a = some (TO vs n) → RdAll z vs ds → Rd z (.ref a) (.tuple ds)
inductive RdAll (z : PH) : List Value → List PyData → Prop
  | nil : RdAll z [] []
  | cons {v : Value} {vs : List Value} {d : PyData} {ds : List PyData} : Rd z v d → RdAll z vs ds → RdAll z (v :: vs) (d :: ds)
end

def Le (z z' : PH) : Prop := ∀ a o, z a = some o → z' a = some o
theorem Le.refl (z : PH) : Le z z := fun _ _ h => h
theorem Le.trans {a b c : PH} (h : Le a b) (k : Le b c) : Le a c := fun x o e => k x o (h x o e)

mutual
theorem Rd.mono {z z' : PH} (h : Le z z') : ∀ {v : Value} {d : PyData}, Rd z v d → Rd z' v d
  | _, _, .none => .none
  | _, _, .bool b => .bool b
  | _, _, .int i t => .int i t
  | _, _, .str x t => .str x t
  | _, _, .list e r => .list (h _ _ e) (RdAll.mono h r)
  | _, _, .tuple e r => .tuple (h _ _ e) (RdAll.mono h r)
theorem RdAll.mono {z z' : PH} (h : Le z z') : ∀ {vs : List Value} {ds : List PyData}, RdAll z vs ds → RdAll z' vs ds
  | _, _, .nil => .nil
  | _, _, .cons e r => .cons (Rd.mono h e) (RdAll.mono h r)
end
mutual
theorem Rd.reads {z : PH} {h : Heap} (k : Le z h.get?) : ∀ {v : Value} {d : PyData}, Rd z v d → ∃ as, Reads h v d as
  | _, _, .none => ⟨_, .none⟩
  | _, _, .bool b => ⟨_, .bool b⟩
  | _, _, .int i t => ⟨_, .int i t⟩
  | _, _, .str x t => ⟨_, .str x t⟩
  | _, _, .list e r => let ⟨as, q⟩ := RdAll.reads k r; ⟨_, .list (k _ _ e) rfl rfl q⟩
  | _, _, .tuple e r => let ⟨as, q⟩ := RdAll.reads k r; ⟨_, .tuple (k _ _ e) rfl rfl q⟩
theorem RdAll.reads {z : PH} {h : Heap} (k : Le z h.get?) : ∀ {vs : List Value} {ds : List PyData}, RdAll z vs ds → ∃ as, ReadsAll h vs ds as
  | _, _, .nil => ⟨_, .nil⟩
  | _, _, .cons e r => let ⟨as, q⟩ := Rd.reads k e; let ⟨bs, q'⟩ := RdAll.reads k r; ⟨_, .cons q q'⟩
end
theorem RdAll.length {z : PH} : ∀ {vs : List Value} {ds : List PyData}, RdAll z vs ds → vs.length = ds.length
  | _, _, .nil => rfl
  | _, _, .cons _ r => by rw [List.length_cons, List.length_cons, r.length]
theorem RdAll.append {z : PH} : ∀ {vs ws : List Value} {ds es : List PyData}, RdAll z vs ds → RdAll z ws es → RdAll z (vs ++ ws) (ds ++ es)
  | _, _, _, _, .nil, k => k
  | _, _, _, _, .cons e r, k => .cons e (r.append k)
theorem RdAll.get {z : PH} : ∀ {vs : List Value} {ds : List PyData} {k : Nat} {d : PyData}, RdAll z vs ds → ds[k]? = some d → ∃ v, vs[k]? = some v ∧ Rd z v d
  | _, _, 0, _, .cons e _, h => by simp at h; subst h; exact ⟨_, rfl, e⟩
  | _, _, k + 1, _, .cons _ r, h => by simp at h; obtain ⟨v, a, b⟩ := r.get h; exact ⟨v, by simpa using a, b⟩
  | _, _, _, _, .nil, h => by simp at h
theorem RdAll.getV {z : PH} : ∀ {vs : List Value} {ds : List PyData} {k : Nat} {v : Value}, RdAll z vs ds → vs[k]? = some v → ∃ d, ds[k]? = some d ∧ Rd z v d
  | _, _, 0, _, .cons e _, h => by simp at h; subst h; exact ⟨_, rfl, e⟩
  | _, _, k + 1, _, .cons _ r, h => by simp at h; obtain ⟨v, a, b⟩ := r.getV h; exact ⟨v, by simpa using a, b⟩
  | _, _, _, _, .nil, h => by simp at h
theorem RdAll.take {z : PH} : ∀ {vs : List Value} {ds : List PyData} (n : Nat), RdAll z vs ds → RdAll z (vs.take n) (ds.take n)
  | _, _, 0, _ => by simpa using RdAll.nil
  | _, _, n + 1, .nil => by simpa using RdAll.nil
  | _, _, n + 1, .cons e r => by simpa using RdAll.cons e (r.take n)
theorem RdAll.drop {z : PH} : ∀ {vs : List Value} {ds : List PyData} (n : Nat), RdAll z vs ds → RdAll z (vs.drop n) (ds.drop n)
  | _, _, 0, h => by simpa using h
  | _, _, n + 1, .nil => by simpa using RdAll.nil
  | _, _, n + 1, .cons e r => by simpa using r.drop n
theorem RdAll.reverse {z : PH} : ∀ {vs : List Value} {ds : List PyData}, RdAll z vs ds → RdAll z vs.reverse ds.reverse
  | _, _, .nil => by simpa using RdAll.nil
  | _, _, .cons e r => by simpa using r.reverse.append (.cons e .nil)
theorem RdAll.ints {z : PH} : ∀ {vs : List Value} {ns : List Int}, RdAll z vs (ns.map .int) → IntsAre vs ns
  | _, [], h => by cases h; exact .nil
  | _, n :: r, h => by
    cases h with
    | cons e k => cases e; exact .cons _ _ (RdAll.ints k)
theorem RdAll.ofInts {z : PH} : ∀ {vs : List Value} {ns : List Int}, IntsAre vs ns → RdAll z vs (ns.map .int)
  | _, _, .nil => .nil
  | _, _, .cons n t r => .cons (.int n t) (RdAll.ofInts r)

inductive Slot where
  | val (d : PyData)
  | lst (ds : List PyData)
  | dct (kvs : List (Int × PyData))
abbrev St := List (Str × Slot)
def tmp : Str := Str.ofString ""

section
variable (prog : Program) (w : World)

/-- the pairs of a dict whose keys are ints -/
inductive RdPairs (z : PH) : List (Int × Value) → List (Int × PyData) → Prop
  | nil : RdPairs z [] []
  | cons {k : Int} {v : Value} {d : PyData} {vs : List (Int × Value)} {ds : List (Int × PyData)} : Rd z v d → RdPairs z vs ds → RdPairs z ((k, v) :: vs) ((k, d) :: ds)

/-- what one owned name holds: its object at `a` -/
def OwnAt (z : PH) (h : Heap) (a : Addr) : Slot → Prop
  | .val _ => False
  | .lst ds => ∃ vs n, h.get? a = some (LO vs n) ∧ RdAll z vs ds
  | .dct kvs => ∃ ps, h.DictOf (intKind prog w) a ps ∧ RdPairs z ps kvs ∧ (a == sysModules) = false

def SlotAt (z : PH) (h : Heap) (v : Option Value) (o : Option Addr) : Slot → Prop
  | .val d => ∃ u, v = some u ∧ Rd z u d
  | sl => ∃ a, o = some a ∧ v = some (.ref a) ∧ OwnAt prog w z h a sl

/-- the state of a frame: `p` must stay as it is, `z` bears the values that are not turned any more, `own` are the objects that this frame may turn -/
structure RepW (S : Shared) (p z : PH) (env : Env) (σ : St) (s : Shared) (m : Str → Option Value) (own : Str → Option Addr) : Prop where
  same : ∃ h t, s = { S with heap := h, toks := t }
  gp : Le S.heap.get? p
  pk : Le p s.heap.get?
  zk : Le z s.heap.get?
  fk : env.scope.kind = .function
  fg : env.globals = mainGlobals
  fb : env.builtins = builtinsNs
  ti : env.kindOf tmp = none
  tc : env.cells.lookup tmp = none
  loc : ∃ ml, s.heap.Ns env.locals ml ∧ ∀ x, env.kindOf x = some .local → ml x = m x
  cel : ∀ x c, env.cells.lookup x = some c → s.heap.IsCell c (m x)
  kc : ∀ x, env.kindOf x = some .cell → ∃ c, env.cells.lookup x = some c
  lp : p env.locals = none ∧ z env.locals = none
  cp : ∀ x c, env.cells.lookup x = some c → p c = none ∧ z c = none ∧ c ≠ env.locals
  cc : ∀ x y c, env.cells.lookup x = some c → env.cells.lookup y = some c → x = y
  cl : ∀ x c, env.cells.lookup x = some c → env.kindOf x ≠ some .local
  op : ∀ x a, own x = some a → p a = none ∧ z a = none ∧ a ≠ env.locals ∧ (∀ y c, env.cells.lookup y = some c → a ≠ c) ∧ ∃ o, s.heap.get? a = some o
  oo : ∀ x y a, own x = some a → own y = some a → x = y
  slots : ∀ x sl, σ.lookup x = some sl → SlotAt prog w z s.heap (m x) (own x) sl

def Rep (S : Shared) (p z : PH) (env : Env) (σ : St) (s : Shared) : Prop := ∃ m own, RepW prog w S p z env σ s m own
def RepV (S : Shared) (p z : PH) (env : Env) (σ : St) (s : Shared) (x : Str) (v : Value) : Prop := ∃ m own, RepW prog w S p z env σ s m own ∧ m x = some v

def Grow (p z z' : PH) : Prop := Le z z' ∧ ∀ a o, z' a = some o → z a = some o ∨ p a = none
end
theorem Grow.refl {p z : PH} : Grow p z z := ⟨Le.refl _, fun _ _ h => .inl h⟩
theorem Grow.trans {p z z' z'' : PH} (h : Grow p z z') (k : Grow p z' z'') : Grow p z z'' :=
  ⟨h.1.trans k.1, fun a o e => (k.2 a o e).elim (fun e' => h.2 a o e') .inr⟩

section
variable {prog : Program} {w : World} {z z' : PH} {h h' : Heap}
theorem RdPairs.mono (k : Le z z') : ∀ {vs : List (Int × Value)} {ds : List (Int × PyData)}, RdPairs z vs ds → RdPairs z' vs ds
  | _, _, .nil => .nil
  | _, _, .cons e r => .cons (e.mono k) (r.mono k)
theorem RdPairs.length : ∀ {vs : List (Int × Value)} {ds : List (Int × PyData)}, RdPairs z vs ds → vs.length = ds.length
  | _, _, .nil => rfl
  | _, _, .cons e r => by rw [List.length_cons, List.length_cons, r.length]
theorem RdPairs.keys : ∀ {vs : List (Int × Value)} {ds : List (Int × PyData)}, RdPairs z vs ds → vs.map (·.1) = ds.map (·.1)
  | _, _, .nil => rfl
  | _, _, .cons e r => by rw [List.map_cons, List.map_cons, r.keys]

theorem OwnAt.keep {a : Addr} {sl : Slot} (x : OwnAt prog w z h a sl) (hz : Le z z') (e : ∀ o, h.get? a = some o → h'.get? a = some o) : OwnAt prog w z' h' a sl := by
  cases sl with
  | val _ => exact x
  | lst ds => obtain ⟨vs, n, q, r⟩ := x; exact ⟨vs, n, e _ q, r.mono hz⟩
  | dct kvs => obtain ⟨ps, ⟨o, es, ep, q, rest⟩, r, lo⟩ := x; exact ⟨ps, ⟨o, es, ep, e _ q, rest⟩, r.mono hz, lo⟩
theorem SlotAt.keep {v : Option Value} {ao : Option Addr} {sl : Slot} (x : SlotAt prog w z h v ao sl) (hz : Le z z') (e : ∀ a, ao = some a → ∀ o, h.get? a = some o → h'.get? a = some o) : SlotAt prog w z' h' v ao sl := by
  cases sl with
  | val d => obtain ⟨u, q, r⟩ := x; exact ⟨u, q, r.mono hz⟩
  | lst ds => obtain ⟨a, q, q', r⟩ := x; exact ⟨a, q, q', OwnAt.keep r hz (e a q)⟩
  | dct kvs => obtain ⟨a, q, q', r⟩ := x; exact ⟨a, q, q', OwnAt.keep r hz (e a q)⟩
theorem own_get {a : Addr} {sl : Slot} (x : OwnAt prog w z h a sl) : ∃ o, h.get? a = some o := by
  cases sl with
  | val _ => exact x.elim
  | lst ds => obtain ⟨vs, n, q, r⟩ := x; exact ⟨_, q⟩
  | dct kvs => obtain ⟨ps, ⟨o, es, ep, q, rest⟩, r⟩ := x; exact ⟨_, q⟩
end

section
variable {prog : Program} {w : World} {S : Shared} {p z : PH} {env : Env} {σ : St} {s : Shared} {m : Str → Option Value} {own : Str → Option Addr}

theorem RepW.rep (R : RepW prog w S p z env σ s m own) : Rep prog w S p z env σ s := ⟨m, own, R⟩

/-- forget slots -/
theorem RepW.weak {σ' : St} (R : RepW prog w S p z env σ s m own) (k : ∀ x sl, σ'.lookup x = some sl → σ.lookup x = some sl) : RepW prog w S p z env σ' s m own :=
  { R with slots := fun x sl e => R.slots x sl (k x sl e) }
theorem Rep.weak {σ' : St} (R : Rep prog w S p z env σ s) (k : ∀ x sl, σ'.lookup x = some sl → σ.lookup x = some sl) : Rep prog w S p z env σ' s :=
  let ⟨m, own, R⟩ := R; ⟨m, own, R.weak k⟩

/-- the heap only grows -/
theorem RepW.ext {h' : Heap} {t : Nat} (R : RepW prog w S p z env σ s m own) (k : ∀ b o, s.heap.get? b = some o → h'.get? b = some o) : RepW prog w S p z env σ { s with heap := h', toks := t } m own where
  same := by obtain ⟨h, t', e⟩ := R.same; exact ⟨h', t, by rw [e]⟩
  gp := R.gp
  pk := fun a o e => k _ _ (R.pk a o e)
  zk := fun a o e => k _ _ (R.zk a o e)
  fk := R.fk
  fg := R.fg
  fb := R.fb
  ti := R.ti
  tc := R.tc
  loc := by obtain ⟨ml, a, b⟩ := R.loc; exact ⟨ml, a.keeps k, b⟩
  cel := fun x c e => (R.cel x c e).keeps k
  kc := R.kc
  lp := R.lp
  cp := R.cp
  cc := R.cc
  cl := R.cl
  op := fun x a e => by obtain ⟨a1, a2, a3, a4, o, a5⟩ := R.op x a e; exact ⟨a1, a2, a3, a4, o, k _ _ a5⟩
  oo := R.oo
  slots := fun x sl e => (R.slots x sl e).keep (Le.refl _) fun a _ o q => k _ _ q
theorem Rep.ext {h' : Heap} {t : Nat} (R : Rep prog w S p z env σ s) (k : ∀ b o, s.heap.get? b = some o → h'.get? b = some o) : Rep prog w S p z env σ { s with heap := h', toks := t } :=
  let ⟨m, own, R⟩ := R; ⟨m, own, R.ext k⟩
theorem Rep.tok {t : Nat} (R : Rep prog w S p z env σ s) : Rep prog w S p z env σ { s with toks := t } := R.ext (h' := s.heap) fun _ _ e => e

def addAt (z : PH) (a : Addr) (o : Obj) : PH := fun b => if b = a then some o else z b
theorem addAt_self (z : PH) (a : Addr) (o : Obj) : addAt z a o a = some o := by simp [addAt]
theorem addAt_ne {z : PH} {a b : Addr} {o : Obj} (h : b ≠ a) : addAt z a o b = z b := by simp [addAt, h]
theorem Le.addAt {z : PH} {a : Addr} {o : Obj} (h : z a = none) : Le z (addAt z a o) := fun b x e => by
  by_cases q : b = a
  · subst q; rw [h] at e; cases e
  · rw [addAt_ne q]; exact e

/-- an object that no one may turn: into the support -/
theorem RepW.zadd {a : Addr} {o : Obj} (R : RepW prog w S p z env σ s m own) (ha : s.heap.get? a = some o) (hL : a ≠ env.locals) (hc : ∀ x c, env.cells.lookup x = some c → a ≠ c) (ho : ∀ x b, own x = some b → a ≠ b) (hz : z a = none) :
    RepW prog w S p (addAt z a o) env σ s m own :=
  { R with
    zk := fun b x e => by
      by_cases q : b = a
      · subst q; rw [addAt_self] at e; cases e; exact ha
      · rw [addAt_ne q] at e; exact R.zk b x e
    lp := ⟨R.lp.1, by rw [addAt_ne (Ne.symm hL)]; exact R.lp.2⟩
    cp := fun x c e => ⟨(R.cp x c e).1, by rw [addAt_ne (Ne.symm (hc x c e))]; exact (R.cp x c e).2.1, (R.cp x c e).2.2⟩
    op := fun x b e => by obtain ⟨a1, a2, a3⟩ := R.op x b e; exact ⟨a1, by rw [addAt_ne (Ne.symm (ho x b e))]; exact a2, a3⟩
    slots := fun x sl e => (R.slots x sl e).keep (Le.addAt hz) fun _ _ _ q => q }

/-- a new object, into the support -/
theorem RepW.push {o : Obj} {t : Nat} (R : RepW prog w S p z env σ s m own) (hf : o.isFreed = false) :
    RepW prog w S p (addAt z s.heap.objs.size o) env σ { s with heap := s.heap.push o, toks := t } m own ∧ Grow p z (addAt z s.heap.objs.size o) ∧ p s.heap.objs.size = none ∧ z s.heap.objs.size = none := by
  have lt : ∀ {b : Addr} {x : Obj}, s.heap.get? b = some x → s.heap.objs.size ≠ b := fun e => Nat.ne_of_gt (Heap.lt_size e)
  have hz : z s.heap.objs.size = none := by
    cases e : z s.heap.objs.size with
    | none => rfl
    | some x => exact absurd rfl (lt (R.zk _ _ e))
  have hp : p s.heap.objs.size = none := by
    cases e : p s.heap.objs.size with
    | none => rfl
    | some x => exact absurd rfl (lt (R.pk _ _ e))
  have R' := R.ext (h' := s.heap.push o) (t := t) fun _ _ e => Heap.get?_push_of_some _ e
  refine ⟨R'.zadd (Heap.get?_push_size _ hf) ?_ ?_ ?_ hz, ⟨Le.addAt hz, fun b x e => ?_⟩, hp, hz⟩
  · obtain ⟨ml, ⟨o', _, _, q, _⟩, _⟩ := R.loc; exact lt q
  · intro x c e; obtain ⟨o', q, _⟩ := R.cel x c e; exact lt q
  · intro x b e; obtain ⟨_, _, _, _, o', q⟩ := R.op x b e; exact lt q
  · by_cases q : b = s.heap.objs.size
    · subst q; exact .inr hp
    · rw [addAt_ne q] at e; exact .inl e
theorem Rep.push {o : Obj} {t : Nat} (R : Rep prog w S p z env σ s) (hf : o.isFreed = false) :
    Rep prog w S p (addAt z s.heap.objs.size o) env σ { s with heap := s.heap.push o, toks := t } ∧ Grow p z (addAt z s.heap.objs.size o) := by
  obtain ⟨m, own, R⟩ := R
  obtain ⟨a, b, _⟩ := R.push (t := t) hf
  exact ⟨⟨m, own, a⟩, b⟩
end
end

/-! # part B -/
section

/-- where a tree is run: the text, the world, the state at the law's call, what is around, the frame -/
structure Cx where
  prog : Program
  w : World
  S : Shared
  A : Around
  env : Env

abbrev NoE : Value → Shared → Prop := fun _ _ => False
abbrev Cx.M (c : Cx) : Model := model c.prog c.w
abbrev Cx.Rep (c : Cx) (p z : PH) (σ : St) (s : Shared) : Prop := Mine.Rep c.prog c.w c.S p z c.env σ s
abbrev Cx.RepW (c : Cx) (p z : PH) (σ : St) (s : Shared) (m : Str → Option Value) (own : Str → Option Addr) : Prop := Mine.RepW c.prog c.w c.S p z c.env σ s m own

structure Cx.Room (c : Cx) (n : Nat) : Prop where
  hh : c.A.handled = none
  hd : c.A.depth + n < 900
  hu : c.A.units + 8 * n < 9000

/-- the same with the names' values said: no expression turns them -/
abbrev Cx.Rm (c : Cx) (m : Str → Option Value) (p z : PH) (σ : St) (s : Shared) : Prop := ∃ own, c.RepW p z σ s m own
def EV (c : Cx) (e : Expr) (σ : St) (Q : PyData → St → Prop) : Prop :=
  ∀ m p z s, c.Rm m p z σ s → wpAny c.M c.A (eval e c.env) (fun v s' => ∃ z' d σ', Grow p z z' ∧ c.Rm m p z' σ' s' ∧ Rd z' v d ∧ Q d σ') NoE s
def TV (c : Cx) (e : Expr) (σ : St) (Q : Bool → St → Prop) : Prop :=
  ∀ m p z s, c.Rm m p z σ s → wpAny c.M c.A (isTrue e c.env (eval e c.env)) (fun b s' => ∃ z' σ', Grow p z z' ∧ c.Rm m p z' σ' s' ∧ Q b σ') NoE s
/-- a new object that the frame may own: it stands under `tmp` -/
def EF (c : Cx) (e : Expr) (σ : St) (Q : Slot → St → Prop) : Prop :=
  ∀ m p z s, c.Rm m p z σ s → wpAny c.M c.A (eval e c.env) (fun v s' => ∃ z' sl σ', Grow p z z' ∧ (∃ m' own, c.RepW p z' ((tmp, sl) :: σ') s' m' own ∧ m' tmp = some v ∧ (∃ a, own tmp = some a) ∧ ∀ y, y ≠ tmp → m' y = m y) ∧ Q sl σ') NoE s
/-- a list of expressions -/
def EVs (c : Cx) (es : List Expr) (σ : St) (Q : List PyData → St → Prop) : Prop :=
  ∀ (pos : Pos) m p z s, c.Rm m p z σ s → wpAny c.M c.A (spliced (backTo pos (starEach es c.env))) (fun vs s' => ∃ z' ds σ', Grow p z z' ∧ c.Rm m p z' σ' s' ∧ RdAll z' vs ds ∧ Q ds σ') NoE s

inductive Out where
  | next | brk | cont
  | ret (d : PyData)
  | fresh (ns : List Int)
def FlowRd (p z : PH) : Flow → Out → Prop
  | .next, .next => True
  | .brk, .brk => True
  | .cont, .cont => True
  | .ret v, .ret d => Rd z v d
  | .ret v, .fresh ns => ∃ a vs n, v = .ref a ∧ p a = none ∧ z a = some (LO vs n) ∧ IntsAre vs ns
  | _, _ => False
def XS (c : Cx) (ss : List Stmt) (σ : St) (Q : Out → St → Prop) : Prop :=
  ∀ p z s, c.Rep p z σ s → wpAny c.M c.A (execs ss c.env) (fun f s' => ∃ z' o σ', Grow p z z' ∧ c.Rep p z' σ' s' ∧ FlowRd p z' f o ∧ Q o σ') NoE s
def X1 (c : Cx) (st : Stmt) (σ : St) (Q : Out → St → Prop) : Prop :=
  ∀ p z s, c.Rep p z σ s → wpAny c.M c.A (exec st c.env) (fun f s' => ∃ z' o σ', Grow p z z' ∧ c.Rep p z' σ' s' ∧ FlowRd p z' f o ∧ Q o σ') NoE s

section
variable {c : Cx} {σ : St}

theorem noE {M : Model} {A : Around} {α : Type} {t : Sem α} {Q : α → Shared → Prop} {E : Value → Shared → Prop} {s : Shared} (h : wpAny M A t Q NoE s) : wpAny M A t Q E s := wpAny_mono h (fun _ _ x => x) fun _ _ x => x.elim

theorem Rm.ext {m : Str → Option Value} {p z : PH} {s : Shared} {h' : Heap} {t : Nat} (R : c.Rm m p z σ s) (k : ∀ b o, s.heap.get? b = some o → h'.get? b = some o) : c.Rm m p z σ { s with heap := h', toks := t } := let ⟨own, R⟩ := R; ⟨own, R.ext k⟩
theorem Rm.tok {m : Str → Option Value} {p z : PH} {s : Shared} {t : Nat} (R : c.Rm m p z σ s) : c.Rm m p z σ { s with toks := t } := Rm.ext R (h' := s.heap) fun _ _ e => e
theorem Rm.weak {m : Str → Option Value} {p z : PH} {s : Shared} {σ' : St} (R : c.Rm m p z σ s) (k : ∀ x sl, σ'.lookup x = some sl → σ.lookup x = some sl) : c.Rm m p z σ' s := let ⟨own, R⟩ := R; ⟨own, R.weak k⟩
/-- the names' values but for `tmp` -/
theorem RepW.congr {prog : Program} {w : World} {S : Shared} {p z : PH} {env : Env} {s : Shared} {m m' : Str → Option Value} {own : Str → Option Addr} (R : RepW prog w S p z env σ s m' own) (h : ∀ y, y ≠ tmp → m' y = m y) (ht : σ.lookup tmp = none) : RepW prog w S p z env σ s m own :=
  { R with
    loc := by
      obtain ⟨ml, a, b⟩ := R.loc
      exact ⟨ml, a, fun x hx => (b x hx).trans (h x fun q => by rw [q, R.ti] at hx; cases hx)⟩
    cel := fun x k e => by rw [← h x fun q => by rw [q, R.tc] at e; cases e]; exact R.cel x k e
    slots := fun x sl e => by rw [← h x fun q => by rw [q, ht] at e; cases e]; exact R.slots x sl e }

/-! ### constants and names -/
theorem EV_int {i : Int} {k : Nat} {pos : Pos} {Q : PyData → St → Prop} (h : Q (.int i) σ) : EV c (.Constant (.int i) k pos) σ Q :=
  fun m p z s R => wpAny_Constant_int ⟨z, _, σ, Grow.refl, Rm.tok R, .int _ _, h⟩
theorem EV_str {x : Str} {k : Nat} {pos : Pos} {Q : PyData → St → Prop} (h : Q (.str x) σ) : EV c (.Constant (.str x) k pos) σ Q :=
  fun m p z s R => wpAny_Constant_str ⟨z, _, σ, Grow.refl, Rm.tok R, .str _ _, h⟩
theorem EV_bool {b : Bool} {k : Nat} {pos : Pos} {Q : PyData → St → Prop} (h : Q (.bool b) σ) : EV c (.Constant (.bool b) k pos) σ Q :=
  fun m p z s R => wpAny_Constant_bool ⟨z, _, σ, Grow.refl, R, .bool _, h⟩
theorem EV_none {k : Nat} {pos : Pos} {Q : PyData → St → Prop} (h : Q .none σ) : EV c (.Constant .none k pos) σ Q :=
  fun m p z s R => wpAny_Constant_none ⟨z, _, σ, Grow.refl, R, .none, h⟩

/-- a name of the frame -/
def IsVar (env : Env) (x : Str) : Bool := (env.kindOf x == some .local || env.kindOf x == some .cell) && !(x == ("__debug__" : Str))

theorem ld_var {M : Model} {A : Around} {prog : Program} {w : World} {S : Shared} {env : Env} {x : Str} {pos : Pos} {p z : PH} {s : Shared} {m : Str → Option Value} {own : Str → Option Addr} {v : Value} {Q : Value → Shared → Prop}
    (R : RepW prog w S p z env σ s m own) (hx : IsVar env x = true) (hv : m x = some v) (h : Q v s) : wpAny M A (eval (.Name x pos) env) Q NoE s := by
  unfold IsVar at hx
  simp only [Bool.and_eq_true, Bool.or_eq_true, beq_iff_eq, Bool.not_eq_true'] at hx
  obtain ⟨hx, hd⟩ := hx
  refine wpAny_Name ?_ hd
  rcases hx with hx | hx
  · obtain ⟨ml, a, b⟩ := R.loc
    exact wpAny_loadName_local R.fk hx a ((b x hx).trans hv) h
  · obtain ⟨k, hk⟩ := R.kc x hx
    exact wpAny_loadName_cell R.fk hx hk (hv ▸ R.cel x k hk) h

theorem EV_name {x : Str} {pos : Pos} {d : PyData} {Q : PyData → St → Prop} (hσ : σ.lookup x = some (.val d)) (hx : IsVar c.env x = true) (h : Q d σ) : EV c (.Name x pos) σ Q := by
  intro m p z s R
  obtain ⟨own, R⟩ := R
  obtain ⟨u, a, b⟩ := R.slots x _ hσ
  exact ld_var R hx a ⟨z, d, σ, Grow.refl, ⟨_, R⟩, b, h⟩

/-- an owned list may be turned no more -/
theorem freeze {p z : PH} {s : Shared} {m : Str → Option Value} {own : Str → Option Addr} {x : Str} {ds : List PyData} {prog : Program} {w : World} {S : Shared} {env : Env} (R : RepW prog w S p z env σ s m own) (hσ : σ.lookup x = some (.lst ds)) :
    ∃ z' v, Grow p z z' ∧ m x = some v ∧ Rd z' v (.list ds) ∧ RepW prog w S p z' env ((x, .val (.list ds)) :: σ) s m (fun y => if y = x then none else own y) := by
  obtain ⟨a, a1, a2, vs, n, a3, a4⟩ := R.slots x _ hσ
  obtain ⟨b1, b2, b3, b4, o, b5⟩ := R.op x a a1
  have R1 : RepW prog w S p z env (σ.filter fun q => q.1 != x) s m (fun y => if y = x then none else own y) :=
    { R with
      op := fun y b e => by
        by_cases q : y = x
        · simp [q] at e
        · simp only [q, if_false] at e; exact R.op y b e
      oo := fun y y' b e e' => by
        by_cases q : y = x
        · simp [q] at e
        · by_cases q' : y' = x
          · simp [q'] at e'
          · simp only [q, q', if_false] at e e'; exact R.oo y y' b e e'
      slots := fun y sl e => by
        have hy : y ≠ x ∧ σ.lookup y = some sl := by
          clear a1 a2 a3 a4 b1 b2 b3 b4 b5 hσ R
          induction σ with
          | nil => simp at e
          | cons q r ih =>
            obtain ⟨k, v⟩ := q
            by_cases hk : k = x
            · have : List.filter (fun q => q.1 != x) ((k, v) :: r) = List.filter (fun q => q.1 != x) r := by simp [hk]
              rw [this] at e
              obtain ⟨i1, i2⟩ := ih e
              refine ⟨i1, ?_⟩
              rw [List.lookup_cons]
              have : (y == k) = false := by rw [hk]; exact beq_eq_false_iff_ne.mpr i1
              rw [this]; exact i2
            · have : List.filter (fun q => q.1 != x) ((k, v) :: r) = (k, v) :: List.filter (fun q => q.1 != x) r := by simp [hk]
              rw [this, List.lookup_cons] at e
              rw [List.lookup_cons]
              cases hb : y == k with
              | true =>
                rw [hb] at e
                have := beq_iff_eq.mp hb
                exact ⟨fun q => hk (this ▸ q), e⟩
              | false => rw [hb] at e; exact ih e
        have := R.slots y sl hy.2
        simp only [hy.1, if_false]
        exact this }
  have R2 := R1.zadd a3 b3 (fun y k e => b4 y k e) (fun y b e q => by
    subst q
    by_cases hy : y = x
    · simp [hy] at e
    · simp only [hy, if_false] at e
      exact hy (R.oo _ _ _ e a1)) b2
  have hz : Le z (addAt z a (LO vs n)) := Le.addAt b2
  refine ⟨_, .ref a, ⟨hz, fun b o e => ?_⟩, a2, .list (addAt_self _ _ _) (a4.mono hz), { R2 with slots := fun y sl e => ?_ }⟩
  · by_cases q : b = a
    · subst q; exact .inr b1
    · rw [addAt_ne q] at e; exact .inl e
  · rw [List.lookup_cons] at e
    cases hb : y == x with
    | true =>
      rw [hb] at e; cases e
      have := beq_iff_eq.mp hb
      subst this
      exact ⟨_, a2, .list (addAt_self _ _ _) (a4.mono hz)⟩
    | false =>
      rw [hb] at e
      have hy : y ≠ x := beq_eq_false_iff_ne.mp hb
      have := (R.slots y sl e).keep (z' := addAt z a (LO vs n)) (h' := s.heap) hz fun _ _ _ q => q
      simp only [hy, if_false]
      exact this
theorem EV_freeze {x : Str} {pos : Pos} {ds : List PyData} {Q : PyData → St → Prop} (hσ : σ.lookup x = some (.lst ds)) (hx : IsVar c.env x = true) (h : Q (.list ds) ((x, .val (.list ds)) :: σ)) : EV c (.Name x pos) σ Q := by
  intro m p z s R
  obtain ⟨own, R⟩ := R
  obtain ⟨z', v, g, hm, hr, R'⟩ := freeze R hσ
  exact ld_var R hx hm ⟨z', _, _, g, ⟨_, R'⟩, hr, h⟩
theorem lookup_tmp {σ : St} {sl : Slot} {x : Str} (h : x ≠ tmp) : List.lookup x ((tmp, sl) :: σ) = σ.lookup x := by
  rw [List.lookup_cons, beq_eq_false_iff_ne.mpr h]
/-- a new list that nobody will turn -/
theorem EV_of_EF {e : Expr} {Q : PyData → St → Prop} (h : EF c e σ (fun sl σ' => ∃ ds, sl = .lst ds ∧ σ'.lookup tmp = none ∧ Q (.list ds) σ')) : EV c e σ Q := by
  intro m₀ p z s R
  refine wpAny_mono (h m₀ p z s R) (fun v s' x => ?_) fun _ _ x => x
  obtain ⟨z', sl, σ', g, ⟨m, own, R', hm, _, he⟩, ds, rfl, ht, q⟩ := x
  obtain ⟨z'', v', g', hm', hr, R''⟩ := freeze R' (x := tmp) (ds := ds) (by rw [List.lookup_cons]; simp)
  rw [hm] at hm'; cases hm'
  refine ⟨z'', _, σ', g.trans g', ⟨_, RepW.congr (R''.weak fun y sl e => ?_) he ht⟩, hr, q⟩
  have hy : y ≠ tmp := fun q => by rw [q, ht] at e; cases e
  rw [lookup_tmp hy, lookup_tmp hy]; exact e

/-! ### storing -/
theorem store_any {x : Str} {v : Value} {sl : Slot} {ow : Option Addr} {prog : Program} {w : World} {S : Shared} {env : Env} {p z : PH} {s : Shared} {m : Str → Option Value} {own : Str → Option Addr} {M : Model} {A : Around} {Q : Unit → Shared → Prop}
    (R : RepW prog w S p z env σ s m own) (hx : IsVar env x = true) (hsl : SlotAt prog w z s.heap (some v) ow sl)
    (how : ∀ a, ow = some a → p a = none ∧ z a = none ∧ a ≠ env.locals ∧ (∀ y k, env.cells.lookup y = some k → a ≠ k) ∧ (∀ y, y ≠ x → own y ≠ some a) ∧ ∃ o, s.heap.get? a = some o)
    (hQ : ∀ s' m' own', RepW prog w S p z env ((x, sl) :: σ) s' m' own' → (∀ y, y ≠ x → m' y = m y) → Q () s') : wpAny M A (storeName env x v) Q NoE s := by
  unfold IsVar at hx
  simp only [Bool.and_eq_true, Bool.or_eq_true, beq_iff_eq, Bool.not_eq_true'] at hx
  obtain ⟨hx, _⟩ := hx
  -- the address that is written
  have key : ∀ (b : Addr) (h' : Heap) (t : Nat), Heap.SameBut b s.heap h' → (p b = none ∧ z b = none) → (∀ y a, own y = some a → a ≠ b) → (∀ a, ow = some a → a ≠ b) →
      (∃ ml, h'.Ns env.locals ml ∧ ∀ y, env.kindOf y = some .local → ml y = if y = x then some v else m y) →
      (∀ y k, env.cells.lookup y = some k → h'.IsCell k (if y = x then some v else m y)) →
      RepW prog w S p z env ((x, sl) :: σ) { s with heap := h', toks := t } (fun y => if y = x then some v else m y) (fun y => if y = x then ow else own y) := by
    intro b h' t hs hb ho hw hl hc
    have kp : ∀ a o, a ≠ b → s.heap.get? a = some o → h'.get? a = some o := fun a o n e => (hs.2 a n).trans e
    refine { R with same := ?_, pk := ?_, zk := ?_, loc := hl, cel := hc, op := ?_, oo := ?_, slots := ?_ }
    · obtain ⟨h, t', e⟩ := R.same; exact ⟨h', t, by rw [e]⟩
    · intro a o e; exact kp a o (fun q => by rw [q, hb.1] at e; cases e) (R.pk a o e)
    · intro a o e; exact kp a o (fun q => by rw [q, hb.2] at e; cases e) (R.zk a o e)
    · intro y a e
      by_cases q : y = x
      · subst q
        simp only [if_true] at e
        obtain ⟨a1, a2, a3, a4, _, o, a5⟩ := how a e
        exact ⟨a1, a2, a3, a4, o, kp a o (hw a e) a5⟩
      · simp only [q, if_false] at e
        obtain ⟨a1, a2, a3, a4, o, a5⟩ := R.op y a e
        exact ⟨a1, a2, a3, a4, o, kp a o (ho y a e) a5⟩
    · intro y y' a e e'
      by_cases q : y = x <;> by_cases q' : y' = x
      · rw [q, q']
      · simp only [q, if_true] at e; simp only [q', if_false] at e'
        exact absurd e' ((how a e).2.2.2.2.1 y' q')
      · simp only [q', if_true] at e'; simp only [q, if_false] at e
        exact absurd e ((how a e').2.2.2.2.1 y q)
      · simp only [q, q', if_false] at e e'; exact R.oo y y' a e e'
    · intro y sl' e
      rw [List.lookup_cons] at e
      cases hb' : y == x with
      | true =>
        rw [hb'] at e; cases e
        have := beq_iff_eq.mp hb'
        subst this
        simp only [if_true]
        exact hsl.keep (Le.refl _) fun a q o e => kp a o (hw a q) e
      | false =>
        rw [hb'] at e
        have hy : y ≠ x := beq_eq_false_iff_ne.mp hb'
        simp only [hy, if_false]
        exact (R.slots y sl' e).keep (Le.refl _) fun a q o e => kp a o (ho y a q) e
  rcases hx with hx | hx
  · obtain ⟨ml, hn, hml⟩ := R.loc
    refine wpAny_storeName_local hx hn (fun h' hn' hs => hQ _ _ _ (key env.locals h' _ hs R.lp (fun y a e => (R.op y a e).2.2.1) (fun a e => (how a e).2.2.1) ⟨_, hn', fun y hy => ?_⟩ fun y k e => ?_) fun y hy => by simp [hy]) (by rw [R.fk]; rfl)
    · by_cases q : y = x
      · simp [q]
      · simp only [q, if_false]; exact hml y hy
    · have hy : y ≠ x := fun q => R.cl y k e (q ▸ hx)
      simp only [hy, if_false]
      exact (R.cel y k e).sameBut hs (R.cp y k e).2.2
  · obtain ⟨k, hk⟩ := R.kc x hx
    refine wpAny_storeName_cell R.fk hx hk (R.cel x k hk) (fun h' hv hs => ?_)
    refine hQ _ _ _ (key k h' s.toks hs ⟨(R.cp x k hk).1, (R.cp x k hk).2.1⟩ (fun y a e => (R.op y a e).2.2.2.1 x k hk) (fun a e => (how a e).2.2.2.1 x k hk) ?_ fun y k' e => ?_) fun y hy => by simp [hy]
    · obtain ⟨ml, hn, hml⟩ := R.loc
      refine ⟨ml, hn.sameBut hs (Ne.symm (R.cp x k hk).2.2), fun y hy => ?_⟩
      have : y ≠ x := fun q => by rw [q, hx] at hy; cases hy
      simp only [this, if_false]; exact hml y hy
    · by_cases q : y = x
      · subst q
        rw [hk] at e; cases e
        simpa using hv
      · simp only [q, if_false]
        exact (R.cel y k' e).sameBut hs fun q' => q (R.cc y x k' e (q' ▸ hk))

theorem X_assign {x : Str} {np pos : Pos} {e : Expr} {Q : Out → St → Prop} (h : EV c e σ (fun d σ' => Q .next ((x, .val d) :: σ'))) (hx : IsVar c.env x = true)
    (hs : swapsWith e (some (.Name x np)) pos.line c.env = pure false := by rfl) : X1 c (.Assign [.Name x np] e pos) σ Q := by
  intro p z s R
  obtain ⟨m₀, R⟩ := R
  refine wpAny_Assign_Name (wpAny_mono (h m₀ p z s R) (fun v s' a => ?_) fun _ _ a => a) hs
  obtain ⟨z', d, σ', g, ⟨own, R'⟩, hr, q⟩ := a
  exact store_any R' hx (ow := none) (sl := .val d) ⟨_, rfl, hr⟩ (fun a e => by cases e) fun s'' m' own' R'' _ => ⟨z', .next, _, g, R''.rep, trivial, q⟩
theorem dropTmp {p z : PH} {s : Shared} {m : Str → Option Value} {own : Str → Option Addr} {sl : Slot} {prog : Program} {w : World} {S : Shared} {env : Env} (R : RepW prog w S p z env ((tmp, sl) :: σ) s m own) (ht : σ.lookup tmp = none) :
    RepW prog w S p z env σ s m (fun y => if y = tmp then none else own y) :=
  { R with
    op := fun y a e => by
      by_cases q : y = tmp
      · simp [q] at e
      · simp only [q, if_false] at e; exact R.op y a e
    oo := fun y y' a e e' => by
      by_cases q : y = tmp <;> by_cases q' : y' = tmp
      · rw [q, q']
      · simp [q] at e
      · simp [q'] at e'
      · simp only [q, q', if_false] at e e'; exact R.oo y y' a e e'
    slots := fun y sl' e => by
      have hy : y ≠ tmp := fun q => by rw [q, ht] at e; cases e
      simp only [hy, if_false]
      exact R.slots y sl' (by rw [lookup_tmp hy]; exact e) }
theorem X_own {x : Str} {np pos : Pos} {e : Expr} {Q : Out → St → Prop} (h : EF c e σ (fun sl σ' => σ'.lookup tmp = none ∧ Q .next ((x, sl) :: σ'))) (hx : IsVar c.env x = true)
    (hs : swapsWith e (some (.Name x np)) pos.line c.env = pure false := by rfl) : X1 c (.Assign [.Name x np] e pos) σ Q := by
  intro p z s R
  obtain ⟨m₀, R⟩ := R
  refine wpAny_Assign_Name (wpAny_mono (h m₀ p z s R) (fun v s' a => ?_) fun _ _ a => a) hs
  obtain ⟨z', sl, σ', g, ⟨m, own, R', hm, ⟨a, ha⟩, _⟩, ht, q⟩ := a
  have sa := R'.slots tmp sl (by rw [List.lookup_cons]; simp)
  rw [hm, ha] at sa
  have ho := R'.op tmp a ha
  refine store_any (dropTmp R' ht) hx (ow := some a) sa (fun b e => ?_) fun s'' m' own' R'' _ => ⟨z', .next, _, g, R''.rep, trivial, q⟩
  cases e
  refine ⟨ho.1, ho.2.1, ho.2.2.1, ho.2.2.2.1, fun y hy e => ?_, ho.2.2.2.2⟩
  by_cases q : y = tmp
  · simp [q] at e
  · simp only [q, if_false] at e; exact q (R'.oo _ _ _ e ha)
end
end

/-! # part C -/
section

section
variable {c : Cx} {σ : St}

/-! ### what two values give -/
/-- a tree of two values that gives a plain datum and turns nothing -/
def BinR (c : Cx) (t : Value → Value → Sem Value) (a b r : PyData) : Prop :=
  ∀ (z : PH) (s : Shared) (va vb : Value) (Q : Value → Shared → Prop), Le z s.heap.get? → Rd z va a → Rd z vb b →
    (∀ v h' t', (∀ x o, s.heap.get? x = some o → h'.get? x = some o) → Rd z v r → Q v { s with heap := h', toks := t' }) → wpAny c.M c.A (t va vb) Q NoE s

theorem BinR.flat {t : Value → Value → Sem Value} {a b r : PyData}
    (h : ∀ (z : PH) (s : Shared) (va vb : Value) (Q : Value → Shared → Prop), Le z s.heap.get? → Rd z va a → Rd z vb b → (∀ v t', Rd z v r → Q v { s with toks := t' }) → wpAny c.M c.A (t va vb) Q NoE s) : BinR c t a b r :=
  fun z s va vb Q hz ha hb hQ => h z s va vb Q hz ha hb fun v t' hr => hQ v s.heap t' (fun _ _ e => e) hr

theorem B_add {a b : Int} : BinR c (binaryOp .Add) (.int a) (.int b) (.int (a + b)) :=
  .flat fun z s va vb Q hz ha hb hQ => by cases ha; cases hb; exact add_int (hQ _ _ (.int _ _))
theorem B_sub {a b : Int} : BinR c (binaryOp .Sub) (.int a) (.int b) (.int (a - b)) :=
  .flat fun z s va vb Q hz ha hb hQ => by cases ha; cases hb; exact sub_int (hQ _ _ (.int _ _))
theorem B_mul {a b : Int} (hm : IntMulOk a b) : BinR c (binaryOp .Mult) (.int a) (.int b) (.int (a * b)) :=
  .flat fun z s va vb Q hz ha hb hQ => by cases ha; cases hb; exact mul_int (hQ _ _ (.int _ _)) hm
theorem B_mod {a b : Int} (hb : b ≠ 0) : BinR c (binaryOp .Mod) (.int a) (.int b) (.int (Int.fmod a b)) :=
  .flat fun z s va vb Q hz ha hb' hQ => by cases ha; cases hb'; exact mod_int hb (hQ _ _ (.int _ _))
theorem B_div {a b : Int} (hb : b ≠ 0) (hp : Builtin.divisionGoesByPylong a b = false) : BinR c (binaryOp .FloorDiv) (.int a) (.int b) (.int (Int.fdiv a b)) :=
  .flat fun z s va vb Q hz ha hb' hQ => by cases ha; cases hb'; exact floordiv_int hb (hQ _ _ (.int _ _)) (.inl hp)

theorem C_eq_int {a b : Int} : BinR c (compareOp .Eq) (.int a) (.int b) (.bool (a == b)) :=
  .flat fun z s va vb Q hz ha hb hQ => by cases ha; cases hb; exact eq_int (hQ _ _ (.bool _))
theorem C_ne_int {a b : Int} : BinR c (compareOp .NotEq) (.int a) (.int b) (.bool (a != b)) :=
  .flat fun z s va vb Q hz ha hb hQ => by cases ha; cases hb; exact ne_int (hQ _ _ (.bool _))
theorem C_lt_int {a b : Int} : BinR c (compareOp .Lt) (.int a) (.int b) (.bool (decide (a < b))) :=
  .flat fun z s va vb Q hz ha hb hQ => by cases ha; cases hb; exact lt_int (hQ _ _ (.bool _))
theorem C_le_int {a b : Int} : BinR c (compareOp .LtE) (.int a) (.int b) (.bool (decide (a ≤ b))) :=
  .flat fun z s va vb Q hz ha hb hQ => by cases ha; cases hb; exact le_int (hQ _ _ (.bool _))
theorem C_gt_int {a b : Int} : BinR c (compareOp .Gt) (.int a) (.int b) (.bool (decide (b < a))) :=
  .flat fun z s va vb Q hz ha hb hQ => by cases ha; cases hb; exact gt_int (hQ _ _ (.bool _))
theorem C_ge_int {a b : Int} : BinR c (compareOp .GtE) (.int a) (.int b) (.bool (decide (b ≤ a))) :=
  .flat fun z s va vb Q hz ha hb hQ => by cases ha; cases hb; exact ge_int (hQ _ _ (.bool _))
theorem C_eq_str {a b : Str} : BinR c (compareOp .Eq) (.str a) (.str b) (.bool (a == b)) :=
  .flat fun z s va vb Q hz ha hb hQ => by cases ha; cases hb; exact eq_str (hQ _ _ (.bool _))
theorem C_ne_str {a b : Str} : BinR c (compareOp .NotEq) (.str a) (.str b) (.bool (a != b)) :=
  .flat fun z s va vb Q hz ha hb hQ => by cases ha; cases hb; exact ne_str (hQ _ _ (.bool _))
theorem C_eq_int_str {a : Int} {b : Str} : BinR c (compareOp .Eq) (.int a) (.str b) (.bool false) :=
  .flat fun z s va vb Q hz ha hb hQ => by cases ha; cases hb; exact EqMixed.eq_int_str (hQ _ _ (.bool _))
theorem C_ne_int_str {a : Int} {b : Str} : BinR c (compareOp .NotEq) (.int a) (.str b) (.bool true) :=
  .flat fun z s va vb Q hz ha hb hQ => by cases ha; cases hb; exact EqMixed.ne_int_str (hQ _ _ (.bool _))
/-- equality of two data -/
theorem C_eq_data {a b : PyData} (ha : SeqAt.shaped a = true) (hb : SeqAt.shaped b = true) (hu : c.A.units + 64 < cLine) : BinR c (compareOp .Eq) a b (.bool (PyData.eqv a b)) :=
  .flat fun z s va vb Q hz ra rb hQ => by
    obtain ⟨_, qa⟩ := ra.reads hz
    obtain ⟨_, qb⟩ := rb.reads hz
    exact eq_dataH qa qb ha hb hu (hQ _ _ (.bool _))
theorem C_ne_data {a b : PyData} (ha : SeqAt.shaped a = true) (hb : SeqAt.shaped b = true) (hu : c.A.units + 64 < cLine) : BinR c (compareOp .NotEq) a b (.bool (!PyData.eqv a b)) :=
  .flat fun z s va vb Q hz ra rb hQ => by
    obtain ⟨_, qa⟩ := ra.reads hz
    obtain ⟨_, qb⟩ := rb.reads hz
    exact ne_dataH qa qb ha hb hu (hQ _ _ (.bool _))
theorem C_in_ints {ns : List Int} {k : Int} : BinR c (compareOp .In) (.int k) (.list (ns.map .int)) (.bool (ns.any (· == k))) :=
  .flat fun z s va vb Q hz ha hb hQ => by
    cases ha
    cases hb with
    | list e r => exact in_list_ints ⟨_, hz _ _ e, rfl, _, rfl⟩ r.ints (hQ _ _ (.bool _))
theorem C_notin_ints {ns : List Int} {k : Int} : BinR c (compareOp .NotIn) (.int k) (.list (ns.map .int)) (.bool (!ns.any (· == k))) :=
  .flat fun z s va vb Q hz ha hb hQ => by
    cases ha
    cases hb with
    | list e r => exact notin_list_ints ⟨_, hz _ _ e, rfl, _, rfl⟩ r.ints (hQ _ _ (.bool _))

theorem BinR.use {t : Value → Value → Sem Value} {a b r : PyData} (h : BinR c t a b r) {m : Str → Option Value} {p z : PH} {s : Shared} {va vb : Value} {Q : Value → Shared → Prop} (R : c.Rm m p z σ s) (ha : Rd z va a) (hb : Rd z vb b)
    (hQ : ∀ v s', c.Rm m p z σ s' → Rd z v r → Q v s') : wpAny c.M c.A (t va vb) Q NoE s := by
  obtain ⟨own, R'⟩ := R
  exact h z s va vb Q R'.zk ha hb fun v h' t' k hr => hQ v _ (Rm.ext ⟨own, R'⟩ k) hr

theorem EV_bin {l r : Expr} {op : Operator} {pos : Pos} {Q : PyData → St → Prop}
    (h : EV c l σ (fun a σ₁ => EV c r σ₁ (fun b σ₂ => ∃ d, BinR c (binaryOp op) a b d ∧ Q d σ₂))) : EV c (.BinOp l op r pos) σ Q := by
  intro m p z s R
  refine wpAny_BinOp (wpAny_mono (h m p z s R) (fun va s₁ x => ?_) fun _ _ x => x)
  obtain ⟨z₁, a, σ₁, g₁, R₁, ra, h₁⟩ := x
  refine wpAny_mono (h₁ m p z₁ s₁ R₁) (fun vb s₂ x => ?_) fun _ _ x => x
  obtain ⟨z₂, b, σ₂, g₂, R₂, rb, d, B, q⟩ := x
  exact B.use R₂ (ra.mono g₂.1) rb fun v s' R' hr => ⟨z₂, d, σ₂, g₁.trans g₂, R', hr, q⟩
theorem EV_cmp {l r : Expr} {op : CmpOp} {pos : Pos} {Q : PyData → St → Prop}
    (h : EV c l σ (fun a σ₁ => EV c r σ₁ (fun b σ₂ => ∃ d, BinR c (compareOp op) a b d ∧ Q d σ₂))) (hm : behindInMarks op r = false := by with_unfolding_all rfl) : EV c (.Compare l [op] [r] pos) σ Q := by
  intro m p z s R
  refine wpAny_Compare1 (wpAny_mono (h m p z s R) (fun va s₁ x => ?_) fun _ _ x => x) hm
  obtain ⟨z₁, a, σ₁, g₁, R₁, ra, h₁⟩ := x
  refine wpAny_mono (h₁ m p z₁ s₁ R₁) (fun vb s₂ x => ?_) fun _ _ x => x
  obtain ⟨z₂, b, σ₂, g₂, R₂, rb, d, B, q⟩ := x
  exact B.use R₂ (ra.mono g₂.1) rb fun v s' R' hr => ⟨z₂, d, σ₂, g₁.trans g₂, R', hr, q⟩
theorem TV_cmp {l r : Expr} {op : CmpOp} {pos : Pos} {Q : Bool → St → Prop}
    (h : EV c l σ (fun a σ₁ => EV c r σ₁ (fun b σ₂ => ∃ d, BinR c (compareOp op) a b (.bool d) ∧ Q d σ₂))) (hm : behindInMarks op r = false := by with_unfolding_all rfl) : TV c (.Compare l [op] [r] pos) σ Q := by
  intro m p z s R
  refine wpAny_isTrue_Compare1 (wpAny_mono (h m p z s R) (fun va s₁ x => ?_) fun _ _ x => x) hm
  obtain ⟨z₁, a, σ₁, g₁, R₁, ra, h₁⟩ := x
  refine wpAny_mono (h₁ m p z₁ s₁ R₁) (fun vb s₂ x => ?_) fun _ _ x => x
  obtain ⟨z₂, b, σ₂, g₂, R₂, rb, d, B, q⟩ := x
  refine B.use R₂ (ra.mono g₂.1) rb fun v s' R' hr => ?_
  cases hr
  exact wpAny_truthy_bool ⟨z₂, σ₂, g₁.trans g₂, R', q⟩
/-- a chain of two -/
theorem TV_chain {l r r' : Expr} {op op' : CmpOp} {pos : Pos} {Q : Bool → St → Prop}
    (h : EV c l σ (fun a σ₁ => EV c r σ₁ (fun b σ₂ => ∃ d, BinR c (compareOp op) a b (.bool d) ∧ if d then EV c r' σ₂ (fun e σ₃ => ∃ d', BinR c (compareOp op') b e (.bool d') ∧ Q d' σ₃) else Q false σ₂)))
    (hm : lastMarks [op, op'] [r, r'] = false := by with_unfolding_all rfl) : TV c (.Compare l [op, op'] [r, r'] pos) σ Q := by
  intro m p z s R
  refine isTrue_chain (wpAny_mono (h m p z s R) (fun va s₁ x => ?_) fun _ _ x => x) hm
  obtain ⟨z₁, a, σ₁, g₁, R₁, ra, h₁⟩ := x
  refine test_link (wpAny_mono (h₁ m p z₁ s₁ R₁) (fun vb s₂ x => ?_) fun _ _ x => x)
  obtain ⟨z₂, b, σ₂, g₂, R₂, rb, d, B, q⟩ := x
  refine B.use R₂ (ra.mono g₂.1) rb fun v s' R' hr => ?_
  cases hr
  refine wpAny_truthy_bool ?_
  cases d with
  | false => exact ⟨z₂, σ₂, g₁.trans g₂, R', q⟩
  | true =>
    refine test_last (wpAny_mono (q m p z₂ s' R') (fun vc s₃ x => ?_) fun _ _ x => x)
    obtain ⟨z₃, e, σ₃, g₃, R₃, re, d', B', q'⟩ := x
    refine B'.use R₃ (rb.mono g₃.1) re fun v s' R' hr => ?_
    cases hr
    exact wpAny_truthy_bool ⟨z₃, σ₃, (g₁.trans g₂).trans g₃, R', q'⟩

/-! ### tests -/
theorem TV_val {e : Expr} {Q : Bool → St → Prop} (h : EV c e σ (fun d σ' => ∃ b, d = .bool b ∧ Q b σ'))
    (ht : ∀ whole : Sem Value, isTrue e c.env whole = (do let v ← whole; standAt e.pos; holding [v] (truthy v)) := by intro _; rfl) : TV c e σ Q := by
  intro m p z s R
  refine wpAny_isTrue_value (wpAny_mono (h m p z s R) (fun v s' x => ?_) fun _ _ x => x) (ht _)
  obtain ⟨z', d, σ', g, R', hr, b, rfl, q⟩ := x
  cases hr
  exact wpAny_truthy_bool ⟨z', σ', g, R', q⟩
theorem TV_not {e : Expr} {pos : Pos} {Q : Bool → St → Prop} (h : TV c e σ (fun b σ' => Q (!b) σ')) : TV c (.UnaryOp .Not e pos) σ Q := by
  intro m p z s R
  refine wpAny_isTrue_Not (wpAny_mono (h m p z s R) (fun b s' x => ?_) fun _ _ x => x)
  obtain ⟨z', σ', g, R', q⟩ := x
  exact ⟨z', σ', g, R', q⟩
def TVs (c : Cx) (op : BoolOp) (es : List Expr) (σ : St) (Q : Bool → St → Prop) : Prop :=
  ∀ m p z s, c.Rm m p z σ s → wpAny c.M c.A (allTrue op es c.env) (fun b s' => ∃ z' σ', Grow p z z' ∧ c.Rm m p z' σ' s' ∧ Q b σ') NoE s
theorem TV_bool {op : BoolOp} {es : List Expr} {pos : Pos} {Q : Bool → St → Prop} (h : TVs c op es σ Q) : TV c (.BoolOp op es pos) σ Q :=
  fun m p z s R => wpAny_isTrue_BoolOp (h m p z s R)
theorem TVs_and {x : Expr} {es : List Expr} {Q : Bool → St → Prop} (h : TV c x σ (fun b σ' => if b then TVs c .And es σ' Q else Q false σ')) : TVs c .And (x :: es) σ Q := by
  intro m p z s R
  refine wpAny_allTrue_And_cons (wpAny_mono (h m p z s R) (fun b s' x => ?_) fun _ _ x => x)
  obtain ⟨z', σ', g, R', q⟩ := x
  cases b with
  | false => exact ⟨z', σ', g, R', q⟩
  | true =>
    refine wpAny_mono (q m p z' s' R') (fun b s' x => ?_) fun _ _ x => x
    obtain ⟨z'', σ'', g', R'', q'⟩ := x
    exact ⟨z'', σ'', g.trans g', R'', q'⟩
theorem TVs_or {x : Expr} {es : List Expr} {Q : Bool → St → Prop} (h : TV c x σ (fun b σ' => if b then Q true σ' else TVs c .Or es σ' Q)) : TVs c .Or (x :: es) σ Q := by
  intro m p z s R
  refine wpAny_allTrue_Or_cons (wpAny_mono (h m p z s R) (fun b s' x => ?_) fun _ _ x => x)
  obtain ⟨z', σ', g, R', q⟩ := x
  cases b with
  | true => exact ⟨z', σ', g, R', q⟩
  | false =>
    refine wpAny_mono (q m p z' s' R') (fun b s' x => ?_) fun _ _ x => x
    obtain ⟨z'', σ'', g', R'', q'⟩ := x
    exact ⟨z'', σ'', g.trans g', R'', q'⟩
theorem TVs_nil {op : BoolOp} {Q : Bool → St → Prop} (h : Q (op == .And) σ) : TVs c op [] σ Q := by
  intro m p z s R
  cases op
  · exact wpAny_allTrue_And_nil ⟨z, σ, Grow.refl, R, h⟩
  · show wpAny c.M c.A (pure _) _ _ _
    exact wpAny_pure ⟨z, σ, Grow.refl, R, h⟩

/-- the value of a chain of «and», «or» whose parts are bools -/
def EBs (c : Cx) (op : BoolOp) (es : List Expr) (σ : St) (Q : PyData → St → Prop) : Prop :=
  ∀ (pos : Pos) m p z s, c.Rm m p z σ s → wpAny c.M c.A (boolOp pos op (evalEach es c.env)) (fun v s' => ∃ z' d σ', Grow p z z' ∧ c.Rm m p z' σ' s' ∧ Rd z' v d ∧ Q d σ') NoE s
theorem EV_bool_op {op : BoolOp} {es : List Expr} {pos : Pos} {Q : PyData → St → Prop} (h : EBs c op es σ Q) : EV c (.BoolOp op es pos) σ Q := fun m p z s R => h pos m p z s R
theorem EBs_one {op : BoolOp} {e : Expr} {Q : PyData → St → Prop} (h : EV c e σ Q) : EBs c op [e] σ Q := fun pos m p z s R => h m p z s R
theorem EBs_more {op : BoolOp} {e e' : Expr} {es : List Expr} {Q : PyData → St → Prop}
    (h : EV c e σ (fun d σ' => ∃ b, d = .bool b ∧ if (b == (op == .And)) = true then EBs c op (e' :: es) σ' Q else Q (.bool b) σ')) : EBs c op (e :: e' :: es) σ Q := by
  intro pos m p z s R
  show wpAny c.M c.A (do
    let v ← eval e c.env
    standAt pos
    let t ← holding [v] (truthy v)
    match op, t with
    | .And, false | .Or, true => pure v
    | _, _ => boolOp pos op (evalEach (e' :: es) c.env)) _ _ s
  refine wpAny_bind (wpAny_mono (h m p z s R) (fun v s' x => ?_) fun _ _ x => x)
  obtain ⟨z', d, σ', g, R', hr, b, rfl, q⟩ := x
  cases hr
  refine wpAny_bind (wpAny_standAt (wpAny_bind (wpAny_holding (wpAny_truthy_bool ?_))))
  have go : EBs c op (e' :: es) σ' Q → wpAny c.M c.A (boolOp pos op (evalEach (e' :: es) c.env)) (fun v s' => ∃ z' d σ', Grow p z z' ∧ c.Rm m p z' σ' s' ∧ Rd z' v d ∧ Q d σ') NoE s' := fun q => by
    refine wpAny_mono (q pos m p z' s' R') (fun v s'' x => ?_) fun _ _ x => x
    obtain ⟨z'', d, σ'', g', R'', hr, q'⟩ := x
    exact ⟨z'', d, σ'', g.trans g', R'', hr, q'⟩
  cases op <;> cases b
  · exact wpAny_pure ⟨z', _, σ', g, R', .bool _, q⟩
  · exact go q
  · exact go q
  · exact wpAny_pure ⟨z', _, σ', g, R', .bool _, q⟩
theorem EV_not {e : Expr} {pos : Pos} {Q : PyData → St → Prop} (h : EV c e σ (fun d σ' => ∃ b, d = .bool b ∧ Q (.bool (!b)) σ')) : EV c (.UnaryOp .Not e pos) σ Q := by
  intro m p z s R
  refine wpAny_UnaryOp (wpAny_mono (h m p z s R) (fun v s' x => ?_) fun _ _ x => x)
  obtain ⟨z', d, σ', g, R', hr, b, rfl, q⟩ := x
  cases hr
  exact not_of (wpAny_truthy_bool ⟨z', _, σ', g, R', .bool _, q⟩)
theorem EV_neg {e : Expr} {pos : Pos} {Q : PyData → St → Prop} (h : EV c e σ (fun d σ' => ∃ i, d = .int i ∧ Q (.int (-i)) σ')) : EV c (.UnaryOp .USub e pos) σ Q := by
  intro m p z s R
  refine wpAny_UnaryOp (wpAny_mono (h m p z s R) (fun v s' x => ?_) fun _ _ x => x)
  obtain ⟨z', d, σ', g, R', hr, b, rfl, q⟩ := x
  cases hr
  exact neg_int ⟨z', _, σ', g, Rm.tok R', .int _ _, q⟩
theorem EV_ifexp {t a b : Expr} {pos : Pos} {Q : PyData → St → Prop} (h : TV c t σ (fun x σ' => if x then EV c a σ' Q else EV c b σ' Q)) : EV c (.IfExp t a b pos) σ Q := by
  intro m p z s R
  refine wpAny_IfExp (wpAny_mono (h m p z s R) (fun x s' y => ?_) fun _ _ x => x)
  obtain ⟨z', σ', g, R', q⟩ := y
  cases x with
  | true =>
    refine wpAny_mono (q m p z' s' R') (fun v s'' x => ?_) fun _ _ x => x
    obtain ⟨z'', d, σ'', g', R'', hr, q'⟩ := x
    exact ⟨z'', d, σ'', g.trans g', R'', hr, q'⟩
  | false =>
    refine wpAny_mono (q m p z' s' R') (fun v s'' x => ?_) fun _ _ x => x
    obtain ⟨z'', d, σ'', g', R'', hr, q'⟩ := x
    exact ⟨z'', d, σ'', g.trans g', R'', hr, q'⟩
theorem EF_ifexp {t a b : Expr} {pos : Pos} {Q : Slot → St → Prop} (h : TV c t σ (fun x σ' => if x then EF c a σ' Q else EF c b σ' Q)) : EF c (.IfExp t a b pos) σ Q := by
  intro m p z s R
  refine wpAny_IfExp (wpAny_mono (h m p z s R) (fun x s' y => ?_) fun _ _ x => x)
  obtain ⟨z', σ', g, R', q⟩ := y
  cases x with
  | true =>
    refine wpAny_mono (q m p z' s' R') (fun v s'' x => ?_) fun _ _ x => x
    obtain ⟨z'', d, σ'', g', q'⟩ := x
    exact ⟨z'', d, σ'', g.trans g', q'⟩
  | false =>
    refine wpAny_mono (q m p z' s' R') (fun v s'' x => ?_) fun _ _ x => x
    obtain ⟨z'', d, σ'', g', q'⟩ := x
    exact ⟨z'', d, σ'', g.trans g', q'⟩

/-! ### monotony -/
theorem EV.mono {e : Expr} {Q Q' : PyData → St → Prop} (h : EV c e σ Q) (k : ∀ d σ', Q d σ' → Q' d σ') : EV c e σ Q' := fun m p z s R =>
  wpAny_mono (h m p z s R) (fun v s' ⟨z', d, σ', g, R', hr, q⟩ => ⟨z', d, σ', g, R', hr, k _ _ q⟩) fun _ _ x => x
theorem EF.mono {e : Expr} {Q Q' : Slot → St → Prop} (h : EF c e σ Q) (k : ∀ d σ', Q d σ' → Q' d σ') : EF c e σ Q' := fun m p z s R =>
  wpAny_mono (h m p z s R) (fun v s' ⟨z', d, σ', g, R', q⟩ => ⟨z', d, σ', g, R', k _ _ q⟩) fun _ _ x => x
theorem TV.mono {e : Expr} {Q Q' : Bool → St → Prop} (h : TV c e σ Q) (k : ∀ d σ', Q d σ' → Q' d σ') : TV c e σ Q' := fun m p z s R =>
  wpAny_mono (h m p z s R) (fun v s' ⟨z', σ', g, R', q⟩ => ⟨z', σ', g, R', k _ _ q⟩) fun _ _ x => x
theorem XS.mono {e : List Stmt} {Q Q' : Out → St → Prop} (h : XS c e σ Q) (k : ∀ d σ', Q d σ' → Q' d σ') : XS c e σ Q' := fun p z s R =>
  wpAny_mono (h p z s R) (fun v s' ⟨z', d, σ', g, R', hr, q⟩ => ⟨z', d, σ', g, R', hr, k _ _ q⟩) fun _ _ x => x
theorem X1.mono {e : Stmt} {Q Q' : Out → St → Prop} (h : X1 c e σ Q) (k : ∀ d σ', Q d σ' → Q' d σ') : X1 c e σ Q' := fun p z s R =>
  wpAny_mono (h p z s R) (fun v s' ⟨z', d, σ', g, R', hr, q⟩ => ⟨z', d, σ', g, R', hr, k _ _ q⟩) fun _ _ x => x
theorem XS.weak {e : List Stmt} {σ' : St} {Q : Out → St → Prop} (h : XS c e σ' Q) (k : ∀ x sl, σ'.lookup x = some sl → σ.lookup x = some sl) : XS c e σ Q := fun p z s R => h p z s (Rep.weak R k)
theorem X1.weak {e : Stmt} {σ' : St} {Q : Out → St → Prop} (h : X1 c e σ' Q) (k : ∀ x sl, σ'.lookup x = some sl → σ.lookup x = some sl) : X1 c e σ Q := fun p z s R => h p z s (Rep.weak R k)

/-! ### statements -/
theorem XS_nil {Q : Out → St → Prop} (h : Q .next σ) : XS c [] σ Q := fun p z s R => wpAny_execs_nil ⟨z, .next, σ, Grow.refl, R, trivial, h⟩
theorem XS_cons {st : Stmt} {ss : List Stmt} {Q : Out → St → Prop} (h : X1 c st σ (fun o σ' => match o with | .next => XS c ss σ' Q | o => Q o σ')) : XS c (st :: ss) σ Q := by
  intro p z s R
  refine wpAny_execs_cons (wpAny_mono (h p z s R) (fun f s' x => ?_) fun _ _ x => x)
  obtain ⟨z', o, σ', g, R', hr, q⟩ := x
  cases f with
  | next =>
    cases o with
    | next =>
      refine wpAny_mono (q p z' s' R') (fun v s'' x => ?_) fun _ _ x => x
      obtain ⟨z'', d, σ'', g', R'', hr, q'⟩ := x
      exact ⟨z'', d, σ'', g.trans g', R'', hr, q'⟩
    | brk => exact hr.elim
    | cont => exact hr.elim
    | ret d => exact hr.elim
    | fresh d => exact hr.elim
  | brk =>
    cases o with
    | brk => exact ⟨z', .brk, σ', g, R', hr, q⟩
    | next => exact hr.elim
    | cont => exact hr.elim
    | ret d => exact hr.elim
    | fresh d => exact hr.elim
  | cont =>
    cases o with
    | cont => exact ⟨z', .cont, σ', g, R', hr, q⟩
    | next => exact hr.elim
    | brk => exact hr.elim
    | ret d => exact hr.elim
    | fresh d => exact hr.elim
  | ret v =>
    cases o with
    | fresh d => exact ⟨z', .fresh d, σ', g, R', hr, q⟩
    | ret d => exact ⟨z', .ret d, σ', g, R', hr, q⟩
    | next => exact hr.elim
    | cont => exact hr.elim
    | brk => exact hr.elim
theorem X_return {e : Expr} {pos : Pos} {Q : Out → St → Prop} (h : EV c e σ (fun d σ' => Q (.ret d) σ')) : X1 c (.Return (some e) pos) σ Q := by
  intro p z s R
  obtain ⟨m, R⟩ := R
  refine wpAny_Return_some (wpAny_mono (h m p z s R) (fun v s' x => ?_) fun _ _ x => x)
  obtain ⟨z', d, σ', g, R', hr, q⟩ := x
  exact ⟨z', .ret d, σ', g, ⟨m, R'⟩, hr, q⟩
theorem X_return_fresh {x : Str} {np pos : Pos} {ns : List Int} {Q : Out → St → Prop} (hσ : σ.lookup x = some (.lst (ns.map .int))) (hx : IsVar c.env x = true) (h : Q (.fresh ns) ((x, .val (.list (ns.map .int))) :: σ)) : X1 c (.Return (some (.Name x np)) pos) σ Q := by
  intro p z s R
  obtain ⟨m, own, R⟩ := R
  obtain ⟨a, a1, a2, vs, n, a3, a4⟩ := R.slots x _ hσ
  obtain ⟨b1, b2, b3, b4, o, b5⟩ := R.op x a a1
  obtain ⟨z', v, g, hm, hr, R'⟩ := freeze R hσ
  rw [a2] at hm; cases hm
  refine wpAny_Return_some (ld_var R hx a2 ⟨z', .fresh ns, _, g, R'.rep, ?_, h⟩)
  cases hr with
  | list e r => exact ⟨_, _, _, rfl, b1, e, r.ints⟩
theorem X_if {t : Expr} {a b : List Stmt} {pos : Pos} {Q : Out → St → Prop} (h : TV c t σ (fun x σ' => if x then XS c a σ' Q else XS c b σ' Q)) : X1 c (.If t a b pos) σ Q := by
  intro p z s R
  obtain ⟨m, R⟩ := R
  refine wpAny_If (wpAny_mono (h m p z s R) (fun x s' y => ?_) fun _ _ x => x)
  obtain ⟨z', σ', g, R', q⟩ := y
  cases x with
  | true =>
    refine wpAny_mono (q p z' s' ⟨m, R'⟩) (fun v s'' x => ?_) fun _ _ x => x
    obtain ⟨z'', d, σ'', g', R'', hr, q'⟩ := x
    exact ⟨z'', d, σ'', g.trans g', R'', hr, q'⟩
  | false =>
    refine wpAny_mono (q p z' s' ⟨m, R'⟩) (fun v s'' x => ?_) fun _ _ x => x
    obtain ⟨z'', d, σ'', g', R'', hr, q'⟩ := x
    exact ⟨z'', d, σ'', g.trans g', R'', hr, q'⟩
theorem X_expr {e : Expr} {pos : Pos} {Q : Out → St → Prop} (h : EV c e σ (fun _ σ' => Q .next σ')) (hi : interactive c.env = false := by rfl) (hs : swapsWith e none pos.line c.env = pure false := by rfl) : X1 c (.Expr e pos) σ Q := by
  intro p z s R
  obtain ⟨m, R⟩ := R
  refine wpAny_Expr_any (wpAny_mono (h m p z s R) (fun v s' x => ?_) fun _ _ x => x) hi hs
  obtain ⟨z', d, σ', g, R', hr, q⟩ := x
  exact ⟨z', .next, σ', g, ⟨m, R'⟩, trivial, q⟩

/-! ### items -/
theorem EV_item_list {e i : Expr} {pos : Pos} {Q : PyData → St → Prop}
    (h : EV c e σ (fun a σ₁ => EV c i σ₁ (fun b σ₂ => ∃ ds k d, a = .list ds ∧ b = .int k ∧ 0 ≤ k ∧ k < 2 ^ 63 ∧ ds[k.toNat]? = some d ∧ Q d σ₂)))
    (hs : ∀ (o : Value) (k : Int) (u : Tok), subscripted i false o (.int k u) = operate [o, .int k u] (getItem o (.int k u)) := by intro _ _ _; with_unfolding_all rfl) : EV c (.Subscript e i pos) σ Q := by
  intro m p z s R
  refine Subscript_ (wpAny_mono (h m p z s R) (fun va s₁ x => ?_) fun _ _ x => x)
  obtain ⟨z₁, a, σ₁, g₁, R₁, ra, h₁⟩ := x
  refine wpAny_mono (h₁ m p z₁ s₁ R₁) (fun vb s₂ x => ?_) fun _ _ x => x
  obtain ⟨z₂, b, σ₂, g₂, R₂, rb, ds, k, d, rfl, rfl, h0, h1, hd, q⟩ := x
  cases rb with
  | int _ t =>
    cases ra.mono g₂.1 with
    | list e r =>
      obtain ⟨v, hv, rv⟩ := r.get hd
      obtain ⟨own, R₂'⟩ := R₂
      have hl : s₂.heap.IsList _ _ := ⟨_, R₂'.zk _ _ e, rfl, _, rfl⟩
      refine tail_any hl.typeIs slot_list_getitem.lookup (wpAny_getItem_list hl h0 h1 (by simpa using hv) ⟨z₂, d, σ₂, g₁.trans g₂, ⟨_, R₂'⟩, rv, q⟩) (hs _ _ _)
theorem EV_item_tup {e i : Expr} {pos : Pos} {Q : PyData → St → Prop}
    (h : EV c e σ (fun a σ₁ => EV c i σ₁ (fun b σ₂ => ∃ ds k d, a = .tuple ds ∧ b = .int k ∧ 0 ≤ k ∧ k < 2 ^ 63 ∧ ds[k.toNat]? = some d ∧ Q d σ₂)))
    (hs : ∀ (o : Value) (k : Int) (u : Tok), subscripted i false o (.int k u) = operate [o, .int k u] (getItem o (.int k u)) := by intro _ _ _; with_unfolding_all rfl) : EV c (.Subscript e i pos) σ Q := by
  intro m p z s R
  refine Subscript_ (wpAny_mono (h m p z s R) (fun va s₁ x => ?_) fun _ _ x => x)
  obtain ⟨z₁, a, σ₁, g₁, R₁, ra, h₁⟩ := x
  refine wpAny_mono (h₁ m p z₁ s₁ R₁) (fun vb s₂ x => ?_) fun _ _ x => x
  obtain ⟨z₂, b, σ₂, g₂, R₂, rb, ds, k, d, rfl, rfl, h0, h1, hd, q⟩ := x
  cases rb with
  | int _ t =>
    cases ra.mono g₂.1 with
    | tuple e r =>
      obtain ⟨v, hv, rv⟩ := r.get hd
      obtain ⟨own, R₂'⟩ := R₂
      refine item_tupleT (j := k.toNat) (l := _) ⟨_, R₂'.zk _ _ e, rfl, _, rfl⟩ (by omega) h1 ?_ hv ⟨z₂, d, σ₂, g₁.trans g₂, ⟨_, R₂'⟩, rv, q⟩ (hs _ _ _)
      have : k.toNat < ds.length := by
        have := (List.getElem?_eq_some_iff.mp hd).1; exact this
      have hl2 := r.length
      have hk : ¬ k < 0 := by omega
      have h2 : k < (List.length ‹List Value› : Int) := by omega
      simp only [seqIndex?, hk, if_false, h0, decide_true, Bool.true_and, h2, if_true]
end
end

/-! # part D -/
section

section
variable {prog : Program} {w : World} {S : Shared} {p z : PH} {env : Env} {σ : St} {s : Shared} {m : Str → Option Value} {own : Str → Option Addr}

/-- everything stays but the frame's own dict, and that says the same -/
theorem RepW.extL {h' : Heap} {t : Nat} (R : RepW prog w S p z env σ s m own) (k : ∀ b o, b ≠ env.locals → s.heap.get? b = some o → h'.get? b = some o) (kl : ∀ ml, s.heap.Ns env.locals ml → h'.Ns env.locals ml) :
    RepW prog w S p z env σ { s with heap := h', toks := t } m own where
  same := by obtain ⟨h, t', e⟩ := R.same; exact ⟨h', t, by rw [e]⟩
  gp := R.gp
  pk := fun a o e => k _ _ (fun q => by rw [q, R.lp.1] at e; cases e) (R.pk a o e)
  zk := fun a o e => k _ _ (fun q => by rw [q, R.lp.2] at e; cases e) (R.zk a o e)
  fk := R.fk
  fg := R.fg
  fb := R.fb
  ti := R.ti
  tc := R.tc
  loc := by obtain ⟨ml, a, b⟩ := R.loc; exact ⟨ml, kl ml a, b⟩
  cel := fun x c e => by obtain ⟨o, a, b⟩ := R.cel x c e; exact ⟨o, k _ _ (R.cp x c e).2.2 a, b⟩
  kc := R.kc
  lp := R.lp
  cp := R.cp
  cc := R.cc
  cl := R.cl
  op := fun x a e => by obtain ⟨a1, a2, a3, a4, o, a5⟩ := R.op x a e; exact ⟨a1, a2, a3, a4, o, k _ _ a3 a5⟩
  oo := R.oo
  slots := fun x sl e => (R.slots x sl e).keep (Le.refl _) fun a q o e => k _ _ (R.op x a q).2.2.1 e

/-- all the objects of a heap but one -/
def allNews (h : Heap) (L : Addr) : List (Addr × Obj) := (List.range h.objs.size).filterMap fun a => if a = L then none else (h.get? a).map fun o => (a, o)
theorem mem_allNews {h : Heap} {L a : Addr} {o : Obj} : (a, o) ∈ allNews h L ↔ a ≠ L ∧ h.get? a = some o := by
  unfold allNews
  simp only [List.mem_filterMap, List.mem_range]
  constructor
  · rintro ⟨b, _, e⟩
    by_cases q : b = L
    · simp [q] at e
    · simp only [q, if_false] at e
      cases e' : h.get? b with
      | none => rw [e'] at e; cases e
      | some x => rw [e'] at e; cases e; exact ⟨q, e'⟩
  · rintro ⟨n, e⟩
    exact ⟨a, Heap.lt_size e, by simp [n, e]⟩
theorem empty_get (a : Addr) : (({} : Heap)).get? a = none := by simp [Heap.get?]
theorem RepW.fr (R : RepW prog w S p z env σ s m own) : ∃ ml, s.heap.Ns env.locals ml ∧ Fr {} env.locals s.heap ml ∧ News {} env.locals s.heap (allNews s.heap env.locals) := by
  obtain ⟨ml, a, b⟩ := R.loc
  exact ⟨ml, a, ⟨a, fun x o e => absurd ((empty_get x).symm.trans e) (by simp), Nat.zero_le _⟩, fun q hq => ⟨(mem_allNews.mp hq).2, (mem_allNews.mp hq).1, empty_get _⟩⟩
theorem Ns.same {h : Heap} {a : Addr} {m m' : Str → Option Value} (x : h.Ns a m) (y : h.Ns a m') : m = m' := by
  obtain ⟨o, es, ep, e, hd, _, k⟩ := x
  obtain ⟨o', es', ep', e', hd', _, k'⟩ := y
  rw [e] at e'; cases e'
  rw [hd] at hd'; cases hd'
  funext y; rw [← k y, k' y]
/-- a rule of the K walk gave a heap: everything stands in it -/
theorem RepW.viaNews {h' : Heap} {t : Nat} {ml : Str → Option Value} {news : List (Addr × Obj)} (R : RepW prog w S p z env σ s m own) (hml : s.heap.Ns env.locals ml) (F : Fr {} env.locals h' ml) (N : News {} env.locals h' news) (hn : ∀ q ∈ allNews s.heap env.locals, q ∈ news) :
    RepW prog w S p z env σ { s with heap := h', toks := t } m own :=
  R.extL (fun b o n e => (N _ (hn _ (mem_allNews.mpr ⟨n, e⟩))).1) fun ml' x => by rw [Ns.same x hml]; exact F.ns

/-- an object that stands outside of what the frame may turn, into the support; many at once -/
theorem RepW.zgrow {z' : PH} (R : RepW prog w S p z env σ s m own) (hz : Le z z') (hk : Le z' s.heap.get?) (hn : ∀ a o, z' a = some o → z a = some o ∨ (a ≠ env.locals ∧ (∀ x c, env.cells.lookup x = some c → a ≠ c) ∧ ∀ x b, own x = some b → a ≠ b)) :
    RepW prog w S p z' env σ s m own := by
  have nn : ∀ a, z a = none → (a = env.locals ∨ (∃ x c, env.cells.lookup x = some c ∧ a = c) ∨ ∃ x b, own x = some b ∧ a = b) → z' a = none := by
    intro a h0 h
    cases e : z' a with
    | none => rfl
    | some o =>
      rcases hn a o e with q | ⟨q1, q2, q3⟩
      · rw [h0] at q; cases q
      · rcases h with h | ⟨x, c, h, r⟩ | ⟨x, b, h, r⟩
        · exact absurd h q1
        · exact absurd r (q2 x c h)
        · exact absurd r (q3 x b h)
  exact { R with
    zk := hk
    lp := ⟨R.lp.1, nn _ R.lp.2 (.inl rfl)⟩
    cp := fun x c e => ⟨(R.cp x c e).1, nn _ (R.cp x c e).2.1 (.inr (.inl ⟨x, c, e, rfl⟩)), (R.cp x c e).2.2⟩
    op := fun x a e => by obtain ⟨a1, a2, a3⟩ := R.op x a e; exact ⟨a1, nn _ a2 (.inr (.inr ⟨x, a, e, rfl⟩)), a3⟩
    slots := fun x sl e => (R.slots x sl e).keep hz fun _ _ _ q => q }
/-- what is new stands outside -/
theorem RepW.apart (R : RepW prog w S p z env σ s m own) {a : Addr} (h : s.heap.get? a = none) : p a = none ∧ z a = none ∧ a ≠ env.locals ∧ (∀ x c, env.cells.lookup x = some c → a ≠ c) ∧ ∀ x b, own x = some b → a ≠ b := by
  refine ⟨?_, ?_, fun q => ?_, fun x c e q => ?_, fun x b e q => ?_⟩
  · cases e : p a with
    | none => rfl
    | some o => have := R.pk _ _ e; rw [h] at this; cases this
  · cases e : z a with
    | none => rfl
    | some o => have := R.zk _ _ e; rw [h] at this; cases this
  · obtain ⟨ml, ⟨o, _, _, e, _⟩, _⟩ := R.loc; rw [← q, h] at e; cases e
  · obtain ⟨o, e', _⟩ := R.cel x c e; rw [← q, h] at e'; cases e'
  · obtain ⟨_, _, _, _, o, e'⟩ := R.op x b e; rw [← q, h] at e'; cases e'
end

/-! ### what the program's own defs promise -/
/-- the def at `f`: on values that read as `args` it ends and hands back a value that reads as a datum of `post`; nothing that stood is turned -/
def Fn (prog : Program) (w : World) (S : Shared) (f : Addr) (n : Nat) (args : List PyData) (post : PyData → Prop) : Prop :=
  ∀ (A : Around), A.handled = none → A.depth + n < 900 → A.units + 8 * n < 9000 → ∀ (z : PH) (s : Shared) (vs : List Value), (∃ h t, s = { S with heap := h, toks := t }) → Le S.heap.get? s.heap.get? → Le z s.heap.get? → RdAll z vs args →
    codeAny (model prog w) A (.call (.ref f) ⟨vs, []⟩) (fun res s' => ∃ v h' t' z' d, res = .ok (.ret v) ∧ s' = { s with heap := h', toks := t' } ∧ Le s.heap.get? h'.get? ∧ Le z z' ∧ Le z' h'.get? ∧
      (∀ a o, z' a = some o → z a = some o ∨ s.heap.get? a = none) ∧ Rd z' v d ∧ post d) s
theorem Fn.mono {prog : Program} {w : World} {S : Shared} {f : Addr} {n k : Nat} {args : List PyData} {post post' : PyData → Prop} (h : Fn prog w S f n args post) (hk : n ≤ k) (hp : ∀ d, post d → post' d) : Fn prog w S f k args post' :=
  fun A hh hd hu z s vs a1 a2 a3 a4 => codeAny_mono (h A hh (by omega) (by omega) z s vs a1 a2 a3 a4) fun res s' ⟨v, h', t', z', d, b1, b2, b3, b4, b5, b6, b7, b8⟩ => ⟨v, h', t', z', d, b1, b2, b3, b4, b5, b6, b7, hp d b8⟩

structure FnAt (S : Shared) (f : Addr) (fd : FuncData) : Prop where
  at_ : ∃ o, S.heap.get? f = some o ∧ o.data = .func fd
  code : S.heap.CodeRec fd.code fd.qualname
structure GlobAt (S : Shared) (x : Str) (v : Value) : Prop where
  at_ : ∃ mg, S.heap.Ns mainGlobals mg ∧ mg x = some v
structure BuiltAt (S : Shared) (x : Str) (v : Value) : Prop where
  at_ : ∃ mg mb, S.heap.Ns mainGlobals mg ∧ mg x = none ∧ S.heap.Ns builtinsNs mb ∧ mb x = some v

section
variable {c : Cx} {σ : St}
theorem Rm.heap_ge {m : Str → Option Value} {p z : PH} {s : Shared} (R : c.Rm m p z σ s) : Le c.S.heap.get? s.heap.get? := let ⟨_, R⟩ := R; R.gp.trans R.pk
def IsGlob (env : Env) (x : Str) : Bool := env.kindOf x == some .globalImplicit && !(x == ("__debug__" : Str))

theorem ld_glob {x : Str} {pos : Pos} {m : Str → Option Value} {p z : PH} {s : Shared} {v : Value} {Q : Value → Shared → Prop} (R : c.Rm m p z σ s) (hx : IsGlob c.env x = true) (g : GlobAt c.S x v) (h : Q v s) : wpAny c.M c.A (eval (.Name x pos) c.env) Q NoE s := by
  unfold IsGlob at hx
  simp only [Bool.and_eq_true, beq_iff_eq, Bool.not_eq_true'] at hx
  have hge := Rm.heap_ge R
  obtain ⟨own, R⟩ := R
  obtain ⟨mg, hn, hm⟩ := g.at_
  refine Name_function_global R.fk hx.1 (loadGlobal_global (mg := mg) ?_ hm h) hx.2
  rw [R.fg]; exact hn.keeps hge
theorem ld_built {x : Str} {pos : Pos} {m : Str → Option Value} {p z : PH} {s : Shared} {v : Value} {Q : Value → Shared → Prop} (R : c.Rm m p z σ s) (hx : IsGlob c.env x = true) (g : BuiltAt c.S x v) (h : Q v s) : wpAny c.M c.A (eval (.Name x pos) c.env) Q NoE s := by
  unfold IsGlob at hx
  simp only [Bool.and_eq_true, beq_iff_eq, Bool.not_eq_true'] at hx
  have hge := Rm.heap_ge R
  obtain ⟨own, R⟩ := R
  obtain ⟨mg, mb, hn, hm, hb, hv⟩ := g.at_
  refine Name_function_global R.fk hx.1 (loadGlobal_builtin (mg := mg) (mb := mb) ?_ hm ?_ hv h) hx.2
  · rw [R.fg]; exact hn.keeps hge
  · rw [R.fb]; exact hb.keeps hge
theorem EV_glob_int {x : Str} {pos : Pos} {i : Int} {t : Tok} {Q : PyData → St → Prop} (g : GlobAt c.S x (.int i t)) (hx : IsGlob c.env x = true) (h : Q (.int i) σ) : EV c (.Name x pos) σ Q :=
  fun m p z s R => ld_glob R hx g ⟨z, _, σ, Grow.refl, R, .int _ _, h⟩

/-! ### arguments -/
theorem EVs_nil {Q : List PyData → St → Prop} (h : Q [] σ) : EVs c [] σ Q := fun pos m p z s R => spliced_none ⟨z, [], σ, Grow.refl, R, .nil, h⟩
theorem EVs_cons {e : Expr} {es : List Expr} {Q : List PyData → St → Prop} (h : EV c e σ (fun d σ₁ => EVs c es σ₁ (fun ds σ₂ => Q (d :: ds) σ₂)))
    (he : starEach (e :: es) c.env = (false, eval e c.env) :: starEach es c.env := by rfl) : EVs c (e :: es) σ Q := by
  intro pos m p z s R
  refine spliced_more (wpAny_mono (h m p z s R) (fun v s₁ x => ?_) fun _ _ x => x) he
  obtain ⟨z₁, d, σ₁, g₁, R₁, r₁, h₁⟩ := x
  refine wpAny_mono (h₁ pos m p z₁ s₁ R₁) (fun vs s₂ x => ?_) fun _ _ x => x
  obtain ⟨z₂, ds, σ₂, g₂, R₂, r₂, q⟩ := x
  exact ⟨z₂, d :: ds, σ₂, g₁.trans g₂, R₂, .cons (r₁.mono g₂.1) r₂, q⟩

/-- what a def hands back, in the caller's state -/
theorem fn_use {f : Addr} {n : Nat} {args : List PyData} {post : PyData → Prop} {m : Str → Option Value} {p z : PH} {s : Shared} {vs : List Value} {Q : Value → Shared → Prop} (H : Fn c.prog c.w c.S f n args post) (rm : c.Room n) (R : c.Rm m p z σ s) (hr : RdAll z vs args)
    (hQ : ∀ v s' z' d, Grow p z z' → c.Rm m p z' σ s' → Rd z' v d → post d → Q v s') : wpAny c.M c.A (call (.ref f) vs) Q NoE s := by
  have hge := Rm.heap_ge R
  obtain ⟨own, R⟩ := R
  refine wpAny_call (codeAny_mono (H c.A rm.hh rm.hd rm.hu z s vs R.same hge R.zk hr) fun res s' x => ?_)
  obtain ⟨v, h', t', z', d, rfl, rfl, b3, b4, b5, b6, b7, b8⟩ := x
  have R' := R.ext (t := t') b3
  refine hQ v _ z' d ⟨b4, fun a o e => (b6 a o e).imp id fun q => (R.apart q).1⟩ ⟨own, R'.zgrow b4 b5 fun a o e => (b6 a o e).imp id fun q => ?_⟩ b7 b8
  obtain ⟨_, _, q3, q4, q5⟩ := R.apart q
  exact ⟨q3, q4, q5⟩
theorem EV_call {x : Str} {np pos : Pos} {f : Addr} {fd : FuncData} {e : Expr} {es : List Expr} {n : Nat} {Q : PyData → St → Prop} (g : GlobAt c.S x (.ref f)) (fa : FnAt c.S f fd) (rm : c.Room n) (hx : IsGlob c.env x = true)
    (h : EVs c (e :: es) σ (fun ds σ' => ∃ post, Fn c.prog c.w c.S f n ds post ∧ ∀ d, post d → Q d σ'))
    (he : starEach (e :: es) c.env = (false, eval e c.env) :: starEach es c.env := by rfl) : EV c (.Call (.Name x np) (e :: es) [] pos) σ Q := by
  intro m p z s R
  refine wpAny_Call_NameR (ld_glob R hx g ?_)
  obtain ⟨o, ho, hd⟩ := fa.at_
  refine callWith_def (o := o) (fd := fd) hd (wpAny_mono (h pos m p z s R) (fun vs s₁ y => ?_) fun _ _ x => x) he
  obtain ⟨z₁, ds, σ₁, g₁, R₁, r₁, post, H, k⟩ := y
  exact ⟨Rm.heap_ge R₁ _ _ ho, fn_use H rm R₁ r₁ fun v s' z' d g' R' hr hp => ⟨z', d, σ₁, g₁.trans g', R', hr, k d hp⟩⟩


/-- the def at `f` hands back a new list of ints -/
def FnNew (prog : Program) (w : World) (S : Shared) (f : Addr) (n : Nat) (args : List PyData) (post : List Int → Prop) : Prop :=
  ∀ (A : Around), A.handled = none → A.depth + n < 900 → A.units + 8 * n < 9000 → ∀ (z : PH) (s : Shared) (vs : List Value), (∃ h t, s = { S with heap := h, toks := t }) → Le S.heap.get? s.heap.get? → Le z s.heap.get? → RdAll z vs args →
    codeAny (model prog w) A (.call (.ref f) ⟨vs, []⟩) (fun res s' => ∃ a h' t' ws k ns, res = .ok (.ret (.ref a)) ∧ s' = { s with heap := h', toks := t' } ∧ Le s.heap.get? h'.get? ∧ s.heap.get? a = none ∧ h'.get? a = some (LO ws k) ∧ IntsAre ws ns ∧ post ns) s

/-- a new object at `a`, under `tmp` -/
theorem RepW.own {p z : PH} {s : Shared} {m : Str → Option Value} {own : Str → Option Addr} {a : Addr} {sl : Slot} {prog : Program} {w : World} {S : Shared} {env : Env} (R : RepW prog w S p z env σ s m own) (h : p a = none ∧ z a = none ∧ a ≠ env.locals ∧ (∀ x c, env.cells.lookup x = some c → a ≠ c) ∧ ∀ x b, own x = some b → a ≠ b)
    (hv : ∀ d, sl ≠ .val d) (ho : OwnAt prog w z s.heap a sl) :
    RepW prog w S p z env ((tmp, sl) :: σ) s (fun y => if y = tmp then some (.ref a) else m y) (fun y => if y = tmp then some a else own y) := by
  obtain ⟨h1, h2, h3, h4, h5⟩ := h
  refine { R with loc := ?_, cel := ?_, op := ?_, oo := ?_, slots := ?_ }
  · obtain ⟨ml, q, k⟩ := R.loc
    refine ⟨ml, q, fun x hx => ?_⟩
    have : x ≠ tmp := fun e => by rw [e, R.ti] at hx; cases hx
    simp only [this, if_false]; exact k x hx
  · intro x k e
    have : x ≠ tmp := fun q => by rw [q, R.tc] at e; cases e
    simp only [this, if_false]; exact R.cel x k e
  · intro x b e
    by_cases q : x = tmp
    · simp only [q, if_true] at e; cases e
      exact ⟨h1, h2, h3, h4, own_get ho⟩
    · simp only [q, if_false] at e; exact R.op x b e
  · intro x y b e e'
    by_cases q : x = tmp <;> by_cases q' : y = tmp
    · rw [q, q']
    · simp only [q, if_true] at e; cases e; simp only [q', if_false] at e'; exact absurd rfl (h5 y _ e')
    · simp only [q', if_true] at e'; cases e'; simp only [q, if_false] at e; exact absurd rfl (h5 x _ e)
    · simp only [q, q', if_false] at e e'; exact R.oo x y b e e'
  · intro x sl' e
    by_cases q : x = tmp
    · subst q
      rw [List.lookup_cons] at e
      simp only [beq_self_eq_true] at e
      cases e
      cases sl with
      | val d => exact absurd rfl (hv d)
      | lst ds => exact ⟨a, by simp, by simp, ho⟩
      | dct ds => exact ⟨a, by simp, by simp, ho⟩
    · rw [lookup_tmp q] at e
      simp only [q, if_false]
      exact R.slots x sl' e

theorem EF_call {x : Str} {np pos : Pos} {f : Addr} {fd : FuncData} {e : Expr} {es : List Expr} {n : Nat} {Q : Slot → St → Prop} (g : GlobAt c.S x (.ref f)) (fa : FnAt c.S f fd) (rm : c.Room n) (hx : IsGlob c.env x = true)
    (h : EVs c (e :: es) σ (fun ds σ' => ∃ post, FnNew c.prog c.w c.S f n ds post ∧ ∀ ns, post ns → Q (.lst (ns.map .int)) σ'))
    (he : starEach (e :: es) c.env = (false, eval e c.env) :: starEach es c.env := by rfl) : EF c (.Call (.Name x np) (e :: es) [] pos) σ Q := by
  intro m p z s R
  refine wpAny_Call_NameR (ld_glob R hx g ?_)
  obtain ⟨o, ho, hd⟩ := fa.at_
  refine callWith_def (o := o) (fd := fd) hd (wpAny_mono (h pos m p z s R) (fun vs s₁ y => ?_) fun _ _ x => x) he
  obtain ⟨z₁, ds, σ₁, g₁, R₁, r₁, post, H, k⟩ := y
  have hge := Rm.heap_ge R₁
  refine ⟨hge _ _ ho, ?_⟩
  obtain ⟨own, R₁⟩ := R₁
  refine wpAny_call (codeAny_mono (H c.A rm.hh rm.hd rm.hu z₁ s₁ vs R₁.same hge R₁.zk r₁) fun res s' y => ?_)
  obtain ⟨a, h', t', ws, k', ns, rfl, rfl, b3, b4, b5, b6, b7⟩ := y
  have R' := R₁.ext (t := t') b3
  refine ⟨z₁, .lst (ns.map .int), σ₁, g₁, ⟨_, _, R'.own (sl := .lst (ns.map .int)) (R₁.apart b4) (fun _ q => by cases q) ⟨ws, k', b5, RdAll.ofInts b6⟩, by simp, ⟨a, by simp⟩, fun y hy => by simp [hy]⟩, k ns b7⟩

/-! ### a def's promise from its body -/
structure FdOk (fd : FuncData) (xs : List Str) (body : List Stmt) : Prop where
  body_ : fd.body = .stmts body
  bind : ∀ vs : List Value, vs.length = xs.length → bindArgs fd ⟨vs, []⟩ = pure (xs.zip vs)
  clo : fd.closure = []
  glob : fd.globals = mainGlobals
  bui : fd.builtins = builtinsNs
  co : fd.scope.isCoroutine = false
  gen : fd.scope.isGenerator = false
  kind : fd.scope.kind = .function
  nd : (fd.scope.names.map (·.1)).Nodup
  xl : ∀ x ∈ xs, fd.scope.names.lookup x = some .local ∨ fd.scope.names.lookup x = some .cell
  xnd : xs.Nodup
  tm : fd.scope.names.lookup tmp = none

theorem cells_mem : ∀ {names : List (Str × NameKind)} {n : Nat} {acc : List (Str × Addr)} {x : Str} {k : Addr}, (x, k) ∈ cellsFrom n names acc → (x, k) ∈ acc ∨ (x, NameKind.cell) ∈ names
  | [], _, _, _, _, h => .inl h
  | (name, kind) :: r, n, acc, x, k, h => by
    unfold cellsFrom at h
    split at h
    · rename_i hk
      rcases cells_mem h with q | q
      · rcases List.mem_cons.mp q with q | q
        · cases q; exact .inr (by rw [← eq_of_beq hk]; exact List.mem_cons_self)
        · exact .inl q
      · exact .inr (List.mem_cons_of_mem _ q)
    · rcases cells_mem h with q | q
      · exact .inl q
      · exact .inr (List.mem_cons_of_mem _ q)
theorem cells_has : ∀ {names : List (Str × NameKind)} {n : Nat} {acc : List (Str × Addr)} {x : Str}, ((x, NameKind.cell) ∈ names ∨ ∃ k, (x, k) ∈ acc) → ∃ k, (x, k) ∈ cellsFrom n names acc
  | [], _, _, _, h => h.elim (fun q => nomatch q) id
  | (name, kind) :: r, n, acc, x, h => by
    unfold cellsFrom
    split
    · refine cells_has ?_
      rcases h with q | ⟨k, q⟩
      · rcases List.mem_cons.mp q with q | q
        · cases q; exact .inr ⟨_, List.mem_cons_self⟩
        · exact .inl q
      · exact .inr ⟨k, List.mem_cons_of_mem _ q⟩
    · rename_i hk
      refine cells_has ?_
      rcases h with q | q
      · rcases List.mem_cons.mp q with q | q
        · cases q; exact absurd rfl hk
        · exact .inl q
      · exact .inr q
theorem lookup_mem_nd {β : Type} : ∀ {cs : List (Str × β)} {n : Str} {c : β}, (cs.map (·.1)).Nodup → (n, c) ∈ cs → cs.lookup n = some c
  | (n', c') :: cs, n, c, hnd, hm => by
    rw [List.map_cons, List.nodup_cons] at hnd
    rcases List.mem_cons.mp hm with e | hm
    · cases e; simp
    · have hne : n ≠ n' := fun e => hnd.1 (e ▸ List.mem_map.mpr ⟨(n, c), hm, rfl⟩)
      rw [List.lookup_cons, beq_eq_false_iff_ne.mpr hne]
      exact lookup_mem_nd hnd.2 hm
theorem lookup_some_mem {β : Type} : ∀ {cs : List (Str × β)} {n : Str} {c : β}, (n, c) ∈ cs → ∃ c', cs.lookup n = some c'
  | (n', c') :: cs, n, c, hm => by
    rw [List.lookup_cons]
    cases h : n == n' with
    | true => exact ⟨_, rfl⟩
    | false =>
      rcases List.mem_cons.mp hm with e | hm
      · cases e; simp at h
      · exact lookup_some_mem hm
theorem cells_kind {names : List (Str × NameKind)} {n : Nat} {x : Str} {k : Addr} (nd : (names.map (·.1)).Nodup) (h : (cellsFrom n names []).lookup x = some k) : names.lookup x = some .cell := by
  rcases cells_mem (mem_of_lookup h) with q | q
  · cases q
  · exact lookup_mem_nd nd q
theorem cells_there {names : List (Str × NameKind)} {n : Nat} {x : Str} (h : names.lookup x = some .cell) : ∃ k, (cellsFrom n names []).lookup x = some k := by
  obtain ⟨k, q⟩ := cells_has (n := n) (acc := []) (.inl (mem_of_lookup h))
  exact lookup_some_mem q

theorem bindL_not {ko : Str → Option NameKind} : ∀ {r : List (Str × Value)} {m : Str → Option Value} {x : Str}, x ∉ r.map (·.1) → bindL ko r m x = m x
  | [], _, _, _ => rfl
  | (n, v) :: r, m, x, h => by
    rw [List.map_cons, List.mem_cons, not_or] at h
    unfold bindL
    rw [bindL_not h.2]
    split
    · simp [h.1]
    · rfl
theorem bindC_not {ko : Str → Option NameKind} : ∀ {r : List (Str × Value)} {m : Str → Option Value} {x : Str}, x ∉ r.map (·.1) → bindC ko r m x = m x
  | [], _, _, _ => rfl
  | (n, v) :: r, m, x, h => by
    rw [List.map_cons, List.mem_cons, not_or] at h
    unfold bindC
    rw [bindC_not h.2]
    split
    · rfl
    · simp [h.1]
theorem bindL_mem {ko : Str → Option NameKind} : ∀ {r : List (Str × Value)} {m : Str → Option Value} {x : Str} {v : Value}, (r.map (·.1)).Nodup → (x, v) ∈ r → ko x = some .local → bindL ko r m x = some v
  | (n, u) :: r, m, x, v, nd, h, hk => by
    rw [List.map_cons, List.nodup_cons] at nd
    unfold bindL
    rcases List.mem_cons.mp h with e | h
    · cases e
      rw [bindL_not nd.1, if_pos hk]; simp
    · exact bindL_mem nd.2 h hk
theorem bindC_mem {ko : Str → Option NameKind} : ∀ {r : List (Str × Value)} {m : Str → Option Value} {x : Str} {v : Value}, (r.map (·.1)).Nodup → (x, v) ∈ r → ko x ≠ some .local → bindC ko r m x = some v
  | (n, u) :: r, m, x, v, nd, h, hk => by
    rw [List.map_cons, List.nodup_cons] at nd
    unfold bindC
    rcases List.mem_cons.mp h with e | h
    · cases e
      rw [bindC_not nd.1, if_neg hk]; simp
    · exact bindC_mem nd.2 h hk

theorem zip_mem {z : PH} : ∀ {xs : List Str} {vs : List Value} {ds : List PyData} {x : Str} {sl : Slot}, RdAll z vs ds → ((xs.zip ds).map fun q => (q.1, Slot.val q.2)).lookup x = some sl → ∃ v d, (x, v) ∈ xs.zip vs ∧ sl = .val d ∧ Rd z v d
  | [], _, _, _, _, _, h => by simp at h
  | y :: xs, _, _, x, sl, .nil, h => by simp at h
  | y :: xs, _, _, x, sl, .cons e r, h => by
    simp only [List.zip_cons_cons, List.map_cons, List.lookup_cons] at h
    cases hb : x == y with
    | true =>
      rw [hb] at h; cases h
      exact ⟨_, _, by rw [eq_of_beq hb, List.zip_cons_cons]; exact List.mem_cons_self, rfl, e⟩
    | false =>
      rw [hb] at h
      obtain ⟨v, d, a, b, k⟩ := zip_mem r h
      exact ⟨v, d, by rw [List.zip_cons_cons]; exact List.mem_cons_of_mem _ a, b, k⟩

/-- the frame that a call makes -/
abbrev cxOf (prog : Program) (w : World) (S : Shared) (A : Around) (fd : FuncData) (L f : Addr) : Cx := ⟨prog, w, S, A.deeper (callEnvC fd L f), callEnvC fd L f⟩
theorem enter_state {prog : Program} {w : World} {S : Shared} {fd : FuncData} {f : Addr} {xs : List Str} {body : List Stmt} (ok : FdOk fd xs body) {p z : PH} {s s₁ : Shared} {vs : List Value} {args : List PyData}
    (h1 : ∃ h t, s = { S with heap := h, toks := t }) (hp : Le S.heap.get? p) (hp' : Le p s.heap.get?) (h3 : Le z s.heap.get?) (h4 : RdAll z vs args) (hl : vs.length = xs.length)
    (x : InCallC s (callEnvC fd s.heap.objs.size f).locals (bindL (callEnvC fd s.heap.objs.size f).kindOf (xs.zip vs) fun _ => none) (callEnvC fd s.heap.objs.size f).cells (bindC (callEnvC fd s.heap.objs.size f).kindOf (xs.zip vs) fun _ => none) s₁) :
    RepW prog w S p z (callEnvC fd s.heap.objs.size f) ((xs.zip args).map fun q => (q.1, Slot.val q.2)) s₁
      (fun y => if (callEnvC fd s.heap.objs.size f).kindOf y = some .local then bindL (callEnvC fd s.heap.objs.size f).kindOf (xs.zip vs) (fun _ => none) y else bindC (callEnvC fd s.heap.objs.size f).kindOf (xs.zip vs) (fun _ => none) y) (fun _ => none) := by
  have none_of : ∀ {q : PH} {a : Addr}, Le q s.heap.get? → s.heap.objs.size ≤ a → q a = none := fun {q a} hq ha => by
    cases e : q a with
    | none => rfl
    | some o => exact absurd (Heap.lt_size (hq _ _ e)) (Nat.not_lt.mpr ha)
  have hL := x.toInCall.fresh
  have cells : (callEnvC fd s.heap.objs.size f).cells = cellsFrom (s.heap.objs.size + 1) fd.scope.names [] := rfl
  have ck : ∀ y k, (callEnvC fd s.heap.objs.size f).cells.lookup y = some k → fd.scope.names.lookup y = some .cell := fun y k e => cells_kind ok.nd (cells ▸ e)
  refine { same := ?_, gp := hp, pk := hp'.trans x.toInCall.keep, zk := h3.trans x.toInCall.keep, fk := ok.kind, fg := ok.glob, fb := ok.bui, ti := ok.tm, tc := ?_, loc := ⟨_, x.toInCall.ns, fun y hy => by simp only [hy, if_true]⟩, cel := ?_, kc := ?_, lp := ⟨none_of hp' hL, none_of h3 hL⟩, cp := ?_, cc := ?_, cl := ?_, op := fun _ _ e => absurd e (by simp), oo := fun _ _ _ e => absurd e (by simp), slots := ?_ }
  · obtain ⟨h, t, rfl⟩ := h1
    obtain ⟨h', t', e⟩ := x.toInCall.same
    exact ⟨h', t', by rw [e]⟩
  · cases e : (callEnvC fd s.heap.objs.size f).cells.lookup tmp with
    | none => rfl
    | some k => have := ck _ _ e; rw [ok.tm] at this; cases this
  · intro y k e
    have : (callEnvC fd s.heap.objs.size f).kindOf y = some .cell := ck y k e
    rw [if_neg (by rw [this]; decide)]
    exact x.cell y k e
  · intro y e
    exact cells_there (n := s.heap.objs.size + 1) e
  · intro y k e
    have := x.above y k (mem_of_lookup e)
    exact ⟨none_of hp' (Nat.le_trans hL (Nat.le_of_lt this)), none_of h3 (Nat.le_trans hL (Nat.le_of_lt this)), Nat.ne_of_gt this⟩
  · intro y y' k e e'
    exact name_of_addr x.apart (mem_of_lookup e) (mem_of_lookup e')
  · intro y k e q
    have : (callEnvC fd s.heap.objs.size f).kindOf y = some .cell := ck y k e
    rw [this] at q; cases q
  · intro y sl e
    obtain ⟨v, d, a, rfl, r⟩ := zip_mem h4 e
    refine ⟨v, ?_, r⟩
    have nd : ((xs.zip vs).map (·.1)).Nodup := by
      rw [List.map_fst_zip (by omega)]; exact ok.xnd
    split
    · rename_i hk; exact bindL_mem nd a hk
    · rename_i hk; exact bindC_mem nd a hk

theorem enter {prog : Program} {w : World} {S : Shared} {f : Addr} {fd : FuncData} {xs : List Str} {body : List Stmt} (fa : FnAt S f fd) (lim : S.heap.NoLimit) (ok : FdOk fd xs body) {A : Around} {s : Shared} {vs : List Value} {R : Result → Shared → Prop}
    (hd : A.depth < 999) (hge : Le S.heap.get? s.heap.get?) (hl : vs.length = xs.length)
    (h : ∀ s₁, InCallC s (callEnvC fd s.heap.objs.size f).locals (bindL (callEnvC fd s.heap.objs.size f).kindOf (xs.zip vs) fun _ => none) (callEnvC fd s.heap.objs.size f).cells (bindC (callEnvC fd s.heap.objs.size f).kindOf (xs.zip vs) fun _ => none) s₁ →
      wpAny (model prog w) (A.deeper (callEnvC fd s.heap.objs.size f)) (execs body (callEnvC fd s.heap.objs.size f)) (fun fl s' => R (.ok (.ret (match fl with | .ret v => v | _ => .none))) s') NoE s₁) :
    codeAny (model prog w) A (.call (.ref f) ⟨vs, []⟩) R s := by
  obtain ⟨o, ho, hdat⟩ := fa.at_
  refine codeAny_call_cells (binds := xs.zip vs) (body := body) (by unfold recursionLimit; omega) (hge _ _ ho) hdat (lim.keeps hge) (fa.code.keeps hge) ok.body_ (ok.bind vs hl) ok.clo (fun q hq => ?_) (fun s₁ x => ?_) ok.co ok.gen ok.kind
  · have hx : q.1 ∈ xs := (List.of_mem_zip hq).1
    rcases ok.xl _ hx with e | e
    · exact .inl e
    · refine .inr ⟨e, ?_⟩
      obtain ⟨k, hk⟩ := cells_there (n := s.heap.objs.size + 1) e
      rw [hk]; rfl
  · exact noE (h s₁ x)

theorem Fn_intro {prog : Program} {w : World} {S : Shared} {f : Addr} {fd : FuncData} {xs : List Str} {body : List Stmt} {n : Nat} {args : List PyData} {post : PyData → Prop} (fa : FnAt S f fd) (lim : S.heap.NoLimit) (ok : FdOk fd xs body) (hl : args.length = xs.length)
    (h : ∀ (A : Around) (L : Addr), (cxOf prog w S A fd L f).Room n → XS (cxOf prog w S A fd L f) body ((xs.zip args).map fun q => (q.1, Slot.val q.2)) (fun o _ => match o with | .ret d => post d | .next => post .none | _ => False)) :
    Fn prog w S f (n + 1) args post := by
  intro A hh hd hu z s vs h1 h2 h3 h4
  refine enter fa lim ok (by omega) h2 (h4.length.trans hl) fun s₁ x => ?_
  have R := enter_state (prog := prog) (w := w) ok h1 h2 (Le.refl _) h3 h4 (h4.length.trans hl) x
  refine wpAny_mono (h A s.heap.objs.size ⟨hh, by show A.depth + 1 + n < 900; omega, by show A.units + 3 + 8 * n < 9000; omega⟩ _ _ _ R.rep) (fun fl s' y => ?_) fun _ _ x => x
  obtain ⟨z', o, σ', g, ⟨m', own', R'⟩, hf, q⟩ := y
  obtain ⟨h', t', e⟩ := R'.same
  obtain ⟨hs, ts, rfl⟩ := h1
  cases fl with
  | next =>
    cases o with
    | next => exact ⟨_, h', t', z', .none, rfl, e, by rw [e] at R'; exact R'.pk, g.1, by rw [e] at R'; exact R'.zk, g.2, .none, q⟩
    | _ => exact hf.elim
  | brk => cases o <;> first | exact hf.elim | exact q.elim
  | cont => cases o <;> first | exact hf.elim | exact q.elim
  | ret v =>
    cases o with
    | ret d => exact ⟨_, h', t', z', d, rfl, e, by rw [e] at R'; exact R'.pk, g.1, by rw [e] at R'; exact R'.zk, g.2, hf, q⟩
    | fresh d => exact q.elim
    | _ => exact hf.elim
theorem FnNew_intro {prog : Program} {w : World} {S : Shared} {f : Addr} {fd : FuncData} {xs : List Str} {body : List Stmt} {n : Nat} {args : List PyData} {post : List Int → Prop} (fa : FnAt S f fd) (lim : S.heap.NoLimit) (ok : FdOk fd xs body) (hl : args.length = xs.length)
    (h : ∀ (A : Around) (L : Addr), (cxOf prog w S A fd L f).Room n → XS (cxOf prog w S A fd L f) body ((xs.zip args).map fun q => (q.1, Slot.val q.2)) (fun o _ => match o with | .fresh d => post d | _ => False)) :
    FnNew prog w S f (n + 1) args post := by
  intro A hh hd hu z s vs h1 h2 h3 h4
  refine enter fa lim ok (by omega) h2 (h4.length.trans hl) fun s₁ x => ?_
  have R := enter_state (prog := prog) (w := w) ok h1 h2 (Le.refl _) h3 h4 (h4.length.trans hl) x
  refine wpAny_mono (h A s.heap.objs.size ⟨hh, by show A.depth + 1 + n < 900; omega, by show A.units + 3 + 8 * n < 9000; omega⟩ _ _ _ R.rep) (fun fl s' y => ?_) fun _ _ x => x
  obtain ⟨z', o, σ', g, ⟨m', own', R'⟩, hf, q⟩ := y
  obtain ⟨h', t', e⟩ := R'.same
  obtain ⟨hs, ts, rfl⟩ := h1
  cases fl with
  | next => cases o <;> first | exact hf.elim | exact q.elim
  | brk => cases o <;> first | exact hf.elim | exact q.elim
  | cont => cases o <;> first | exact hf.elim | exact q.elim
  | ret v =>
    cases o with
    | ret d => exact q.elim
    | fresh d =>
      obtain ⟨a, ws, k, rfl, b1, b2, b3⟩ := hf
      exact ⟨a, h', t', ws, k, d, rfl, e, by rw [e] at R'; exact R'.pk, b1, by rw [e] at R'; exact R'.zk _ _ b2, b3, q⟩
    | _ => exact hf.elim
end
end

/-! # part E -/
section

section
variable {prog : Program} {w : World} {S : Shared} {p z : PH} {env : Env} {σ : St} {s : Shared} {m : Str → Option Value} {own : Str → Option Addr}

/-- an owned object is turned -/
theorem RepW.updOwn {x : Str} {a : Addr} {sl : Slot} {h' : Heap} {t : Nat} (R : RepW prog w S p z env σ s m own) (hx : own x = some a) (hm : m x = some (.ref a)) (hs : Heap.SameBut a s.heap h') (hv : ∀ d, sl ≠ .val d) (ho : OwnAt prog w z h' a sl) :
    RepW prog w S p z env ((x, sl) :: σ) { s with heap := h', toks := t } m own := by
  obtain ⟨b1, b2, b3, b4, o, b5⟩ := R.op x a hx
  have kp : ∀ b o, b ≠ a → s.heap.get? b = some o → h'.get? b = some o := fun b o n e => (hs.2 b n).trans e
  refine { R with same := ?_, pk := ?_, zk := ?_, loc := ?_, cel := ?_, op := ?_, slots := ?_ }
  · obtain ⟨h, t', e⟩ := R.same; exact ⟨h', t, by rw [e]⟩
  · exact fun b o e => kp b o (fun q => by rw [q, b1] at e; cases e) (R.pk b o e)
  · exact fun b o e => kp b o (fun q => by rw [q, b2] at e; cases e) (R.zk b o e)
  · obtain ⟨ml, q, k⟩ := R.loc; exact ⟨ml, q.sameBut hs (Ne.symm b3), k⟩
  · exact fun y k e => (R.cel y k e).sameBut hs (Ne.symm (b4 y k e))
  · intro y b e
    obtain ⟨c1, c2, c3, c4, o', c5⟩ := R.op y b e
    refine ⟨c1, c2, c3, c4, ?_⟩
    by_cases q : b = a
    · rw [q]; exact own_get ho
    · exact ⟨o', kp b o' q c5⟩
  · intro y sl' e
    by_cases q : y = x
    · subst q
      rw [List.lookup_cons] at e
      simp only [beq_self_eq_true] at e
      cases e
      cases sl with
      | val d => exact absurd rfl (hv d)
      | lst ds => exact ⟨a, hx, hm, ho⟩
      | dct ds => exact ⟨a, hx, hm, ho⟩
    · rw [List.lookup_cons, beq_eq_false_iff_ne.mpr q] at e
      exact (R.slots y sl' e).keep (Le.refl _) fun b hb o e => kp b o (fun q' => q (R.oo y x a (q' ▸ hb) hx)) e
theorem RepW.updList {x : Str} {a : Addr} {vs : List Value} {n : Nat} {ds : List PyData} {f : Array Value → Array Value} {ws : List Value} {t : Nat} (R : RepW prog w S p z env σ s m own) (hx : own x = some a) (hm : m x = some (.ref a)) (hl : s.heap.get? a = some (LO vs n))
    (hf : f vs.toArray = ws.toArray) (hr : RdAll z ws ds) : RepW prog w S p z env ((x, .lst ds) :: σ) { s with heap := s.heap.update a (Obj.mapSeq f), toks := t } m own := by
  have e : (Obj.mapSeq f (LO vs n)) = LO ws (if (f vs.toArray).size == vs.toArray.size then n else n + 1) := by
    show ({ cls := .type "list", data := .seq (f vs.toArray) (if (f vs.toArray).size == vs.toArray.size then n else n + 1) } : Obj) = _
    rw [hf]
  have q : (s.heap.update a (Obj.mapSeq f)).get? a = some (LO ws (if (f vs.toArray).size == vs.toArray.size then n else n + 1)) := by
    rw [← e]
    exact Heap.get?_update_self _ hl rfl
  exact R.updOwn hx hm (Heap.SameBut.update ..) (fun d q => by cases q) ⟨ws, _, q, hr⟩
end

section
variable {c : Cx} {σ : St}
/-- the list that a name owns -/
theorem own_list {m : Str → Option Value} {p z : PH} {s : Shared} {x : Str} {ds : List PyData} {own : Str → Option Addr} (R : c.RepW p z σ s m own) (hσ : σ.lookup x = some (.lst ds)) :
    ∃ a vs n, own x = some a ∧ m x = some (.ref a) ∧ s.heap.get? a = some (LO vs n) ∧ RdAll z vs ds := by
  obtain ⟨a, a1, a2, vs, n, a3, a4⟩ := R.slots x _ hσ
  exact ⟨a, vs, n, a1, a2, a3, a4⟩

theorem size_small {vs : List Value} {ds : List PyData} {z : PH} (r : RdAll z vs ds) (h : ds.length ≤ 100000) : vs.toArray.size ≤ 100000 := by rw [List.size_toArray, r.length]; exact h
theorem line_of {n : Nat} (h : n ≤ 100000) : n ≤ sizeLine := by unfold sizeLine; omega

theorem list_meth {x : Str} {np apos pos : Pos} {name : Str} {id : String} {es : List Expr} {m : Str → Option Value} {p z : PH} {s : Shared} {ds : List PyData} {Q : Value → Shared → Prop} (R : c.Rm m p z σ s) (hσ : σ.lookup x = some (.lst ds)) (hx : IsVar c.env x = true)
    (slot : PySem.Slot "list" name id) (hty : typeOf (.builtin id) = pure (.type "method_descriptor"))
    (hbase : attributeBase (.Name x np) name c.env (eval (.Name x np) c.env) = eval (.Name x np) c.env)
    (hfew : ((backTo pos (starEach es c.env)).all (fun x => !x.1) && (backToKw pos (keywordEach [] c.env)).all (fun x => x.1.isSome) && decide (es.length + ([] : List Keyword).length + (if ([] : List Keyword).isEmpty then 0 else 1) < 30)) = true)
    (hline : (apos.endLine == pos.line) = true)
    (h : ∀ a own, c.RepW p z σ s m own → own x = some a → m x = some (.ref a) → wpAny c.M c.A (callWith pos (.builtin id) [.ref a] (backTo pos (starEach es c.env)) []) Q NoE s) :
    wpAny c.M c.A (eval (.Call (.Attribute (.Name x np) name apos) es [] pos) c.env) Q NoE s := by
  obtain ⟨own, R⟩ := R
  obtain ⟨a, vs, n, a1, a2, a3, a4⟩ := own_list R hσ
  refine wpAny_Call_method hbase hfew hline F.plainAttrs_list slot hty (ld_var R hx a2 ⟨⟨_, a3, rfl⟩, fun b e => ?_, h a own R a1 a2⟩)
  cases e
  exact ⟨_, a3, rfl⟩

theorem EV_append {x : Str} {np apos pos : Pos} {e : Expr} {ds₀ : List PyData} {Q : PyData → St → Prop} (hσ : σ.lookup x = some (.lst ds₀)) (hx : IsVar c.env x = true)
    (h : EV c e σ (fun d σ' => ∃ ds, σ'.lookup x = some (.lst ds) ∧ ds.length ≤ 100000 ∧ Q .none ((x, .lst (ds ++ [d])) :: σ')))
    (hbase : attributeBase (.Name x np) (Str.ofString "append") c.env (eval (.Name x np) c.env) = eval (.Name x np) c.env := by rfl)
    (he : starEach [e] c.env = [(false, eval e c.env)] := by rfl)
    (hline : (apos.endLine == pos.line) = true := by rfl) :
    EV c (.Call (.Attribute (.Name x np) (Str.ofString "append") apos) [e] [] pos) σ Q := by
  intro m p z s R
  refine list_meth R hσ hx F.slot_list_append F.type_list_append hbase (by rw [he]; rfl) hline fun a own R' a1 a2 => ?_
  rw [he]
  refine P.append_list (wpAny_mono (h m p z s R) (fun v s₁ y => ?_) fun _ _ x => x)
  obtain ⟨z₁, d, σ₁, g₁, ⟨own₁, R₁⟩, r₁, ds, hs, hlen, q⟩ := y
  obtain ⟨a', vs, n, b1, b2, b3, b4⟩ := own_list R₁ hs
  rw [a2] at b2; cases b2
  exact ⟨vs.toArray, n, line_of (size_small b4 hlen), b3, z₁, .none, _, g₁, ⟨own₁, R₁.updList b1 a2 b3 (f := fun xs => xs.push v) (ws := vs ++ [v]) (by simp) (b4.append (.cons r₁ .nil))⟩, .none, q⟩

theorem EV_pop {x : Str} {np apos pos : Pos} {ds : List PyData} {d : PyData} {Q : PyData → St → Prop} (hσ : σ.lookup x = some (.lst (ds ++ [d]))) (hx : IsVar c.env x = true) (hlen : ds.length < 100000)
    (h : Q d ((x, .lst ds) :: σ))
    (hbase : attributeBase (.Name x np) (Str.ofString "pop") c.env (eval (.Name x np) c.env) = eval (.Name x np) c.env := by rfl)
    (hline : (apos.endLine == pos.line) = true := by rfl) :
    EV c (.Call (.Attribute (.Name x np) (Str.ofString "pop") apos) [] [] pos) σ Q := by
  intro m p z s R
  refine list_meth R hσ hx F.slot_list_pop F.type_list_pop hbase rfl hline fun a own R' a1 a2 => ?_
  obtain ⟨a', vs, n, b1, b2, b3, b4⟩ := own_list R' hσ
  rw [a2] at b2; cases b2
  have hl := b4.length
  rw [List.length_append, List.length_singleton] at hl
  obtain ⟨ws, v, rfl⟩ : ∃ ws v, vs = ws ++ [v] := by
    rcases List.eq_nil_or_concat vs with q | ⟨ws, v, q⟩
    · subst q; simp at hl
    · exact ⟨ws, v, by rw [q, List.concat_eq_append]⟩
  have hws : ws.length = ds.length := by rw [List.length_append, List.length_singleton] at hl; omega
  have hv : Rd z v d := by
    obtain ⟨u, e1, e2⟩ := b4.get (k := ds.length) (d := d) (by simp)
    rw [← hws] at e1
    simp at e1
    exact e1 ▸ e2
  have hr : RdAll z ws ds := by
    have := b4.take ds.length
    rw [← hws] at this
    simpa [hws] using this
  refine P.pop_list b3 (y := v) (by simp) ⟨z, d, _, Grow.refl, ⟨own, R'.updList a1 a2 b3 (ws := ws) ?_ hr⟩, hv, h⟩ (line_of (by simp; omega))
  simp [Array.eraseIdxIfInBounds, List.eraseIdx_append_of_length_le]

theorem EV_extend {x : Str} {np apos pos : Pos} {e : Expr} {ds₀ : List PyData} {Q : PyData → St → Prop} (hσ : σ.lookup x = some (.lst ds₀)) (hx : IsVar c.env x = true)
    (h : EV c e σ (fun d σ' => ∃ ds es, d = .list es ∧ σ'.lookup x = some (.lst ds) ∧ ds.length ≤ 50000 ∧ es.length ≤ 50000 ∧ Q .none ((x, .lst (ds ++ es)) :: σ')))
    (hbase : attributeBase (.Name x np) (Str.ofString "extend") c.env (eval (.Name x np) c.env) = eval (.Name x np) c.env := by rfl)
    (he : starEach [e] c.env = [(false, eval e c.env)] := by rfl)
    (hline : (apos.endLine == pos.line) = true := by rfl) :
    EV c (.Call (.Attribute (.Name x np) (Str.ofString "extend") apos) [e] [] pos) σ Q := by
  intro m p z s R
  refine list_meth R hσ hx F.slot_list_extend F.type_list_extend hbase (by rw [he]; rfl) hline fun a own R' a1 a2 => ?_
  rw [he]
  refine P.extend_list (wpAny_mono (h m p z s R) (fun v s₁ y => ?_) fun _ _ x => x)
  obtain ⟨z₁, d, σ₁, g₁, ⟨own₁, R₁⟩, r₁, ds, es, rfl, hs, hl1, hl2, q⟩ := y
  obtain ⟨a', vs, n, b1, b2, b3, b4⟩ := own_list R₁ hs
  rw [a2] at b2; cases b2
  cases r₁ with
  | @list b us n2 _ e r =>
    have l1 := b4.length
    have l2 := r.length
    refine ⟨b, vs.toArray, us.toArray, n, n2, line_of (by simp; omega), ?_, ?_, rfl, b3, R₁.zk _ _ e, z₁, .none, _, g₁, ⟨own₁, R₁.updList b1 a2 b3 (f := fun xs => xs ++ us.toArray) (ws := vs ++ us) (by simp) (b4.append r)⟩, .none, q⟩
    · simp only [List.size_toArray]; unfold sizeLine; omega
    · have : Builtin.List.listTooLong (vs.toArray.size + us.toArray.size) = false := by
        unfold Builtin.List.listTooLong sizeLine
        simp only [List.size_toArray]
        simp
        omega
      rw [this]; simp

theorem EV_reverse {x : Str} {np apos pos : Pos} {ds : List PyData} {Q : PyData → St → Prop} (hσ : σ.lookup x = some (.lst ds)) (hx : IsVar c.env x = true) (hlen : ds.length ≤ 100000)
    (h : Q .none ((x, .lst ds.reverse) :: σ))
    (hbase : attributeBase (.Name x np) (Str.ofString "reverse") c.env (eval (.Name x np) c.env) = eval (.Name x np) c.env := by rfl)
    (hline : (apos.endLine == pos.line) = true := by rfl) :
    EV c (.Call (.Attribute (.Name x np) (Str.ofString "reverse") apos) [] [] pos) σ Q := by
  intro m p z s R
  refine list_meth R hσ hx F.slot_list_reverse F.type_list_reverse hbase rfl hline fun a own R' a1 a2 => ?_
  obtain ⟨a', vs, n, b1, b2, b3, b4⟩ := own_list R' hσ
  rw [a2] at b2; cases b2
  exact P.reverse_list b3 ⟨z, .none, _, Grow.refl, ⟨own, R'.updList a1 a2 b3 (f := fun x => x.reverse) (ws := vs.reverse) (by simp) b4.reverse⟩, .none, h⟩ (line_of (size_small b4 hlen))

/-! ### displays -/
theorem ef_new {m : Str → Option Value} {p z : PH} {s : Shared} {h' : Heap} {t : Nat} {a : Addr} {sl : Slot} (R : c.Rm m p z σ s) (k : ∀ b o, s.heap.get? b = some o → h'.get? b = some o) (ha : s.heap.get? a = none) (hv : ∀ d, sl ≠ .val d) (ho : OwnAt c.prog c.w z h' a sl) :
    ∃ m' own, c.RepW p z ((tmp, sl) :: σ) { s with heap := h', toks := t } m' own ∧ m' tmp = some (.ref a) ∧ (∃ b, own tmp = some b) ∧ ∀ y, y ≠ tmp → m' y = m y := by
  obtain ⟨own, R⟩ := R
  exact ⟨_, _, (R.ext k).own (R.apart ha) hv ho, by simp, ⟨a, by simp⟩, fun y hy => by simp [hy]⟩
theorem get_size (h : Heap) : h.get? h.objs.size = none := by
  cases e : h.get? h.objs.size with
  | none => rfl
  | some o => exact absurd (Heap.lt_size e) (Nat.lt_irrefl _)
theorem EF_list {es : List Expr} {pos : Pos} {Q : Slot → St → Prop} (h : EVs c es σ (fun ds σ' => ds.length ≤ 100000 ∧ Q (.lst ds) σ')) : EF c (.List es pos) σ Q := by
  intro m p z s R
  refine wpAny_List_spliced (wpAny_mono (h pos m p z s R) (fun vs s₁ x => ?_) fun _ _ x => x)
  obtain ⟨z₁, ds, σ₁, g₁, R₁, r₁, hl, q⟩ := x
  have hl' := r₁.length
  refine ⟨line_of (by omega), z₁, .lst ds, σ₁, g₁, ?_, q⟩
  exact ef_new (h' := s₁.heap.push { cls := .type "list", data := .seq vs.toArray }) R₁ (fun b o e => Heap.get?_push_of_some _ e) (get_size _) (fun d q => by cases q) ⟨vs, 0, Heap.get?_push_size _ rfl, r₁⟩
theorem EV_tuple {es : List Expr} {k : Nat} {pos : Pos} {Q : PyData → St → Prop} (h : EVs c es σ (fun ds σ' => ds.length ≤ 100000 ∧ Q (.tuple ds) σ')) : EV c (.Tuple es k pos) σ Q := by
  intro m p z s R
  refine wpAny_Tuple_spliced (wpAny_mono (h pos m p z s R) (fun vs s₁ x => ?_) fun _ _ x => x)
  obtain ⟨z₁, ds, σ₁, g₁, ⟨own, R₁⟩, r₁, hl, q⟩ := x
  have hl' := r₁.length
  obtain ⟨a, b, _⟩ := R₁.push (o := TO vs 0) (t := s₁.toks) rfl
  exact ⟨line_of (by omega), _, .tuple ds, σ₁, g₁.trans b, ⟨own, a⟩, .tuple (addAt_self _ _ _) (r₁.mono b.1), q⟩
/-- something stands behind the table of modules -/
def ModsOk (S : Shared) : Prop := ∃ a o, sysModules < a ∧ S.heap.get? a = some o
theorem big_of {prog : Program} {w : World} {S : Shared} {p z : PH} {env : Env} {s : Shared} {m : Str → Option Value} {own : Str → Option Addr} (hm : ModsOk S) (R : RepW prog w S p z env σ s m own) : (s.heap.objs.size == sysModules) = false := by
  obtain ⟨a, o, h1, h2⟩ := hm
  have h3 := Heap.lt_size (R.pk _ _ (R.gp _ _ h2))
  exact beq_eq_false_iff_ne.mpr (Nat.ne_of_gt (Nat.lt_trans h1 h3))
theorem EF_dict {pos : Pos} {Q : Slot → St → Prop} (hmod : ModsOk c.S) (h : Q (.dct []) σ) : EF c (.Dict [] [] pos) σ Q := by
  intro m p z s R
  refine wpAny_Dict_empty ⟨z, .dct [], σ, Grow.refl, ?_, h⟩
  refine ef_new (h' := s.heap.push { cls := .type "dict", data := .dict #[] }) R (fun b o e => Heap.get?_push_of_some _ e) (get_size _) (fun d q => by cases q) ⟨[], ⟨_, #[], 0, Heap.get?_push_size _ rfl, ⟨rfl, rfl, rfl⟩, rfl, fun e he => by simp at he, .nil, by simp⟩, .nil, let ⟨_, R⟩ := R; big_of hmod R⟩
end
end

/-! # part F -/
section

section
variable {c : Cx} {σ : St}

/-! ### calls of built-ins -/
theorem call_builtin {id : String} {e : Expr} {es : List Expr} {pos : Pos} {s : Shared} {Q : Value → Shared → Prop} (he : starEach (e :: es) c.env = (false, eval e c.env) :: starEach es c.env) (hany : (backTo pos (starEach es c.env)).any (·.1) = false)
    (h : wpAny c.M c.A (spliced (backTo pos (starEach (e :: es) c.env))) (fun vs s₁ => wpAny c.M c.A (call (.builtin id) vs) Q NoE s₁) NoE s) :
    wpAny c.M c.A (callWith pos (.builtin id) [] (backTo pos (starEach (e :: es) c.env)) []) Q NoE s := by
  rw [he] at h ⊢
  refine Calls.callWith_builtin (by show (false || (backTo pos (starEach es c.env)).any (·.1)) = false; rw [hany]; rfl) ?_
  exact Calls.evalArgs_plain h
/-- an expression whose value is a list that stands now (owned or not) -/
def EAL (c : Cx) (e : Expr) (σ : St) (Q : List PyData → St → Prop) : Prop :=
  ∀ m p z s, c.Rm m p z σ s → wpAny c.M c.A (eval e c.env) (fun v s' => ∃ z' ds σ', Grow p z z' ∧ c.Rm m p z' σ' s' ∧ (∃ a vs n, v = .ref a ∧ s'.heap.get? a = some (LO vs n) ∧ RdAll z' vs ds) ∧ Q ds σ') NoE s
theorem EAL_of_EV {e : Expr} {Q : List PyData → St → Prop} (h : EV c e σ (fun d σ' => ∃ ds, d = .list ds ∧ Q ds σ')) : EAL c e σ Q := by
  intro m p z s R
  refine wpAny_mono (h m p z s R) (fun v s' x => ?_) fun _ _ x => x
  obtain ⟨z', d, σ', g, ⟨own, R'⟩, hr, ds, rfl, q⟩ := x
  cases hr with
  | list e r => exact ⟨z', ds, σ', g, ⟨own, R'⟩, ⟨_, _, _, rfl, R'.zk _ _ e, r⟩, q⟩
theorem EAL_own {x : Str} {pos : Pos} {ds : List PyData} {Q : List PyData → St → Prop} (hσ : σ.lookup x = some (.lst ds)) (hx : IsVar c.env x = true) (h : Q ds σ) : EAL c (.Name x pos) σ Q := by
  intro m p z s R
  obtain ⟨own, R⟩ := R
  obtain ⟨a, vs, n, a1, a2, a3, a4⟩ := own_list R hσ
  exact ld_var R hx a2 ⟨z, ds, σ, Grow.refl, ⟨own, R⟩, ⟨a, vs, n, rfl, a3, a4⟩, h⟩

/-- one argument that is a list -/
theorem spliced1 {e : Expr} {pos : Pos} {m : Str → Option Value} {p z : PH} {s : Shared} {Q : List PyData → St → Prop} {P : List Value → Shared → Prop} (h : EAL c e σ Q) (R : c.Rm m p z σ s) (he : starEach [e] c.env = [(false, eval e c.env)])
    (hP : ∀ a vs n ds z' σ' s', Grow p z z' → c.Rm m p z' σ' s' → s'.heap.get? a = some (LO vs n) → RdAll z' vs ds → Q ds σ' → P [.ref a] s') : wpAny c.M c.A (spliced (backTo pos (starEach [e] c.env))) P NoE s := by
  refine spliced_more (wpAny_mono (h m p z s R) (fun v s₁ x => ?_) fun _ _ x => x) he
  obtain ⟨z', ds, σ', g, R', ⟨a, vs, n, rfl, e1, e2⟩, q⟩ := x
  exact spliced_none (hP a vs n ds z' σ' s₁ g R' e1 e2 q)
theorem EV_len {x : Str} {np pos : Pos} {e : Expr} {Q : PyData → St → Prop} (hb : BuiltAt c.S x (.builtin "len")) (hx : IsGlob c.env x = true)
    (h : EAL c e σ (fun ds σ' => ds.length ≤ 100000 ∧ Q (.int ds.length) σ')) (he : starEach [e] c.env = [(false, eval e c.env)] := by rfl) : EV c (.Call (.Name x np) [e] [] pos) σ Q := by
  intro m p z s R
  refine wpAny_Call_NameR (ld_built R hx hb (call_builtin he rfl (spliced1 h R he fun a vs n ds z' σ' s' g R' e1 e2 q => ?_)))
  have hl := e2.length
  refine len_list (items := vs.toArray) ⟨_, e1, rfl, n, rfl⟩ (by simp; omega) ⟨z', _, σ', g, Rm.tok R', ?_, q.2⟩
  rw [List.size_toArray, hl]
  exact .int _ _
theorem EF_sorted {x : Str} {np pos : Pos} {e : Expr} {Q : Slot → St → Prop} (hb : BuiltAt c.S x (.builtin "sorted")) (hx : IsGlob c.env x = true)
    (h : EAL c e σ (fun ds σ' => ∃ ns : List Int, ds = ns.map .int ∧ ns.length < 64 ∧ ∀ ns' : List Int, ns'.Perm ns → ns'.Pairwise (· ≤ ·) → Q (.lst (ns'.map .int)) σ')) (he : starEach [e] c.env = [(false, eval e c.env)] := by rfl) : EF c (.Call (.Name x np) [e] [] pos) σ Q := by
  intro m p z s R
  refine wpAny_Call_NameR (ld_built R hx hb (call_builtin he rfl (spliced1 h R he fun a vs n ds z' σ' s' g R' e1 e2 q => ?_)))
  obtain ⟨ns, rfl, hlen, q⟩ := q
  have hi := e2.ints
  refine sorted_ints (vs := vs) ⟨_, e1, rfl, n, rfl⟩ hi (by rw [hi.length]; exact hlen) fun out ns' a1 a2 a3 => ?_
  obtain ⟨k, hk⟩ := sortedAll_at s'.heap vs out
  refine ⟨z', _, σ', g, ef_new (h' := sortedAll s'.heap vs out) (sl := .lst (ns'.map .int)) R' (fun b o e => sortedAll_old e) ?_ (fun d q => by cases q) ⟨out.toList, k, hk, RdAll.ofInts a1⟩, q ns' a2 a3⟩
  cases e : s'.heap.get? (s'.heap.objs.size + 1) with
  | none => rfl
  | some o => exact absurd (Heap.lt_size e) (Nat.not_lt.mpr (Nat.le_succ _))

/-! ### comparisons, in and not in -/
def CmpJ (c : Cx) (l r : Expr) (op : CmpOp) (σ : St) (Q : Bool → St → Prop) : Prop :=
  ∀ m p z s, c.Rm m p z σ s → wpAny c.M c.A (eval l c.env) (fun a s₁ => wpAny c.M c.A (eval r c.env) (fun b s₂ => wpAny c.M c.A (compareOp op a b) (fun v s' => ∃ d z' σ', v = .bool d ∧ Grow p z z' ∧ c.Rm m p z' σ' s' ∧ Q d σ') NoE s₂) NoE s₁) NoE s
theorem EV_cmpJ {l r : Expr} {pos : Pos} {op : CmpOp} {Q : PyData → St → Prop} (h : CmpJ c l r op σ (fun b σ' => Q (.bool b) σ')) (hm : behindInMarks op r = false := by with_unfolding_all rfl) : EV c (.Compare l [op] [r] pos) σ Q := by
  intro m p z s R
  refine wpAny_Compare1 (wpAny_mono (h m p z s R) (fun va s₁ x => wpAny_mono x (fun vb s₂ x => wpAny_mono x (fun v s' x => ?_) fun _ _ x => x) fun _ _ x => x) fun _ _ x => x) hm
  obtain ⟨d, z', σ', rfl, g, R', q⟩ := x
  exact ⟨z', _, σ', g, R', .bool _, q⟩
theorem TV_cmpJ {l r : Expr} {pos : Pos} {op : CmpOp} {Q : Bool → St → Prop} (h : CmpJ c l r op σ Q) (hm : behindInMarks op r = false := by with_unfolding_all rfl) : TV c (.Compare l [op] [r] pos) σ Q := by
  intro m p z s R
  refine wpAny_isTrue_Compare1 (wpAny_mono (h m p z s R) (fun va s₁ x => wpAny_mono x (fun vb s₂ x => wpAny_mono x (fun v s' x => ?_) fun _ _ x => x) fun _ _ x => x) fun _ _ x => x) hm
  obtain ⟨d, z', σ', rfl, g, R', q⟩ := x
  exact wpAny_truthy_bool ⟨z', σ', g, R', q⟩
theorem CmpJ_in {l r : Expr} {Q : Bool → St → Prop} (h : EV c l σ (fun a σ₁ => ∃ k : Int, a = .int k ∧ EAL c r σ₁ (fun ds σ₂ => ∃ ns : List Int, ds = ns.map .int ∧ Q (ns.any (· == k)) σ₂))) : CmpJ c l r .In σ Q := by
  intro m p z s R
  refine wpAny_mono (h m p z s R) (fun va s₁ x => ?_) fun _ _ x => x
  obtain ⟨z₁, a, σ₁, g₁, R₁, ra, k, rfl, h₁⟩ := x
  cases ra
  refine wpAny_mono (h₁ m p z₁ s₁ R₁) (fun vb s₂ x => ?_) fun _ _ x => x
  obtain ⟨z₂, ds, σ₂, g₂, R₂, ⟨a, vs, n, rfl, e1, e2⟩, ns, rfl, q⟩ := x
  exact in_list_ints ⟨_, e1, rfl, n, rfl⟩ e2.ints ⟨_, z₂, σ₂, rfl, g₁.trans g₂, R₂, q⟩
theorem CmpJ_notin {l r : Expr} {Q : Bool → St → Prop} (h : EV c l σ (fun a σ₁ => ∃ k : Int, a = .int k ∧ EAL c r σ₁ (fun ds σ₂ => ∃ ns : List Int, ds = ns.map .int ∧ Q (!ns.any (· == k)) σ₂))) : CmpJ c l r .NotIn σ Q := by
  intro m p z s R
  refine wpAny_mono (h m p z s R) (fun va s₁ x => ?_) fun _ _ x => x
  obtain ⟨z₁, a, σ₁, g₁, R₁, ra, k, rfl, h₁⟩ := x
  cases ra
  refine wpAny_mono (h₁ m p z₁ s₁ R₁) (fun vb s₂ x => ?_) fun _ _ x => x
  obtain ⟨z₂, ds, σ₂, g₂, R₂, ⟨a, vs, n, rfl, e1, e2⟩, ns, rfl, q⟩ := x
  exact notin_list_ints ⟨_, e1, rfl, n, rfl⟩ e2.ints ⟨_, z₂, σ₂, rfl, g₁.trans g₂, R₂, q⟩
theorem RdAll.strs {z : PH} : ∀ {vs : List Value} {ns : List Str}, RdAll z vs (ns.map .str) → StrsAre vs ns
  | _, [], h => by cases h; exact .nil
  | _, n :: r, h => by
    cases h with
    | cons e k => cases e; exact .cons _ _ (RdAll.strs k)
/-- a text in a display of texts -/
theorem B_in_strs {xs : List Str} {k : Str} : BinR c (compareOp .In) (.str k) (.tuple (xs.map .str)) (.bool (xs.any (· == k))) :=
  .flat fun z s va vb Q hz ha hb hQ => by
    cases ha with
    | str _ t =>
      cases hb with
      | tuple e r =>
        have hi := r.strs
        exact in_tuple_strs ⟨_, hz _ _ e, rfl, _, rfl⟩ hi (hQ _ _ (.bool _))
/-! ### dicts with int keys -/
theorem own_dict {m : Str → Option Value} {p z : PH} {s : Shared} {x : Str} {kvs : List (Int × PyData)} {own : Str → Option Addr} (R : c.RepW p z σ s m own) (hσ : σ.lookup x = some (.dct kvs)) :
    ∃ a ps, own x = some a ∧ m x = some (.ref a) ∧ s.heap.DictOf (intKind c.prog c.w) a ps ∧ RdPairs z ps kvs := by
  obtain ⟨a, a1, a2, ps, a3, a4, _⟩ := R.slots x _ hσ
  exact ⟨a, ps, a1, a2, a3, a4⟩
/-- what a dict of the call's own is not -/
theorem lo_of {m : Str → Option Value} {p z : PH} {s : Shared} {own : Str → Option Addr} {x : Str} {a : Addr} {kvs : List (Int × PyData)} (R : c.RepW p z σ s m own) (ha : own x = some a) (hσ : σ.lookup x = some (.dct kvs)) : (a == sysModules) = false := by
  obtain ⟨b, b1, _, _, _, _, lo⟩ := R.slots x _ hσ
  rw [ha] at b1; cases b1
  exact lo
def storedD (kvs : List (Int × PyData)) (k : Int) (v : PyData) : List (Int × PyData) :=
  if kvs.any (fun kv => kv.1 = k) then kvs.map (fun kv => if kv.1 = k then (kv.1, v) else kv) else kvs ++ [(k, v)]
theorem RdPairs.any {z : PH} {k : Int} : ∀ {ps : List (Int × Value)} {kvs : List (Int × PyData)}, RdPairs z ps kvs → ps.any (fun kv => kv.1 = k) = kvs.any (fun kv => kv.1 = k)
  | _, _, .nil => rfl
  | _, _, .cons e r => by simp [r.any]
theorem RdPairs.append {z : PH} : ∀ {ps qs : List (Int × Value)} {kvs lvs : List (Int × PyData)}, RdPairs z ps kvs → RdPairs z qs lvs → RdPairs z (ps ++ qs) (kvs ++ lvs)
  | _, _, _, _, .nil, h => h
  | _, _, _, _, .cons e r, h => .cons e (r.append h)
theorem RdPairs.stored {z : PH} {k : Int} {v : Value} {d : PyData} (hv : Rd z v d) {ps : List (Int × Value)} {kvs : List (Int × PyData)} (h : RdPairs z ps kvs) : RdPairs z (stored ps k v) (storedD kvs k d) := by
  unfold PySem.stored storedD
  rw [h.any]
  split
  · rename_i ha
    clear ha
    induction h with
    | nil => exact .nil
    | @cons k' v' d' vs ds e r ih =>
      simp only [List.map_cons]
      by_cases q : k' = k
      · simp only [q, if_true]; exact .cons hv ih
      · simp only [q, if_false]; exact .cons e ih
  · exact h.append (.cons hv .nil)
theorem RdPairs.valueAt {z : PH} {k : Int} : ∀ {ps : List (Int × Value)} {kvs : List (Int × PyData)} {d : PyData}, RdPairs z ps kvs → (kvs.find? fun kv => kv.1 = k).map (·.2) = some d → ∃ v, PySem.valueAt ps k = some v ∧ Rd z v d
  | _, _, d, .nil, h => by simp at h
  | _, _, d, @RdPairs.cons _ k' v' d' vs ds e r, h => by
    unfold PySem.valueAt
    by_cases q : k' = k
    · simp [q] at h ⊢; exact h ▸ e
    · simp only [List.find?_cons, q, decide_false] at h ⊢
      obtain ⟨v, a, b⟩ := r.valueAt h
      exact ⟨v, a, b⟩
theorem X_setdict {x : Str} {np tp pos : Pos} {i e : Expr} {kvs₀ : List (Int × PyData)} {Q : Out → St → Prop}
    (h : EV c e σ (fun d σ₁ => ∃ kvs, σ₁.lookup x = some (.dct kvs) ∧ EV c i σ₁ (fun k σ₂ => ∃ n kvs, k = .int n ∧ σ₂.lookup x = some (.dct kvs) ∧ kvs.length ≤ 100000 ∧ Q .next ((x, .dct (storedD kvs n d)) :: σ₂))))
    (hx : IsVar c.env x = true) (hs : swapsWith e (some (.Subscript (.Name x np) i tp)) pos.line c.env = pure false := by rfl) : X1 c (.Assign [.Subscript (.Name x np) i tp] e pos) σ Q := by
  intro p z s R
  obtain ⟨m, R⟩ := R
  refine wpAny_Assign_Subscript (wpAny_mono (h m p z s R) (fun v s₁ y => ?_) fun _ _ y => y) hs
  obtain ⟨z₁, d, σ₁, g₁, ⟨own₁, R₁⟩, r₁, kvs₁, hσ₁, h₁⟩ := y
  obtain ⟨a, ps, a1, a2, a3, a4⟩ := own_dict R₁ hσ₁
  refine ld_var R₁ hx a2 (wpAny_mono (h₁ m p z₁ s₁ ⟨own₁, R₁⟩) (fun kv s₂ y => ?_) fun _ _ y => y)
  obtain ⟨z₂, k, σ₂, g₂, ⟨own₂, R₂⟩, r₂, n, kvs, rfl, hσ₂, hl, q⟩ := y
  obtain ⟨a', ps', b1, b2, b3, b4⟩ := own_dict R₂ hσ₂
  rw [a2] at b2; cases b2
  cases r₂ with
  | int _ t =>
    refine wpAny_setItem_pairs (knd := intKind c.prog c.w) (intKind_is _ _ _ _) b3 (fun h' hd hs' => ?_) (line_of (by rw [b4.length]; exact hl))
    exact ⟨z₂, .next, _, g₁.trans g₂, ⟨m, own₂, R₂.updOwn (sl := .dct (storedD kvs n d)) b1 a2 hs' (fun d q => by cases q) ⟨_, hd, b4.stored (r₁.mono g₂.1), lo_of R₂ b1 hσ₂⟩⟩, trivial, q⟩
theorem CmpJ_dict {l : Expr} {x : Str} {np : Pos} {op : CmpOp} {Q : Bool → St → Prop} (hop : op = .In ∨ op = .NotIn) (hmod : ModsOk c.S) (hx : IsVar c.env x = true)
    (h : EV c l σ (fun a σ₁ => ∃ (k : Int) (kvs : List (Int × PyData)), a = .int k ∧ σ₁.lookup x = some (.dct kvs) ∧ Q (if op = .In then kvs.any (fun kv => kv.1 = k) else !kvs.any (fun kv => kv.1 = k)) σ₁)) : CmpJ c l (.Name x np) op σ Q := by
  intro m p z s R
  refine wpAny_mono (h m p z s R) (fun va s₁ y => ?_) fun _ _ x => x
  obtain ⟨z₁, a, σ₁, g₁, ⟨own₁, R₁⟩, ra, k, kvs, rfl, hσ, q⟩ := y
  cases ra with
  | int _ t =>
    obtain ⟨a, ps, a1, a2, a3, a4⟩ := own_dict R₁ hσ
    refine ld_var R₁ hx a2 ?_
    have hlo := lo_of R₁ a1 hσ
    have e : (valueAt ps k).isSome = kvs.any (fun kv => kv.1 = k) := by rw [valueAt_isSome_eq_any, a4.any]
    rcases hop with rfl | rfl
    · refine wpAny_in_of (knd := intKind c.prog c.w) (intKind_is _ _ _ _) hlo a3.mapOf ?_
      exact ⟨_, z₁, σ₁, rfl, g₁, Rm.tok ⟨own₁, R₁⟩, by rw [e]; simpa using q⟩
    · refine wpAny_notIn_of (knd := intKind c.prog c.w) (intKind_is _ _ _ _) hlo a3.mapOf ?_
      exact ⟨_, z₁, σ₁, rfl, g₁, Rm.tok ⟨own₁, R₁⟩, by rw [e]; simpa using q⟩
theorem EV_item_dict {x : Str} {np pos : Pos} {i : Expr} {kvs₀ : List (Int × PyData)} {Q : PyData → St → Prop} (hσ : σ.lookup x = some (.dct kvs₀)) (hx : IsVar c.env x = true)
    (h : EV c i σ (fun a σ₁ => ∃ (k : Int) (kvs : List (Int × PyData)) (d : PyData), a = .int k ∧ σ₁.lookup x = some (.dct kvs) ∧ (kvs.find? fun kv => kv.1 = k).map (·.2) = some d ∧ Q d σ₁))
    (hs : ∀ (o : Value) (k : Int) (u : Tok), subscripted i false o (.int k u) = operate [o, .int k u] (getItem o (.int k u)) := by intro _ _ _; with_unfolding_all rfl) : EV c (.Subscript (.Name x np) i pos) σ Q := by
  intro m p z s R
  obtain ⟨own, R⟩ := R
  obtain ⟨a, ps, a1, a2, a3, a4⟩ := own_dict R hσ
  refine Subscript_ (ld_var R hx a2 (wpAny_mono (h m p z s ⟨own, R⟩) (fun vk s₁ y => ?_) fun _ _ y => y))
  obtain ⟨z₁, b, σ₁, g₁, ⟨own₁, R₁⟩, rb, k, kvs, d, rfl, hσ₁, hd, q⟩ := y
  obtain ⟨a', ps', b1, b2, b3, b4⟩ := own_dict R₁ hσ₁
  rw [a2] at b2; cases b2
  cases rb with
  | int _ t =>
    obtain ⟨v, hv, rv⟩ := b4.valueAt hd
    refine tail_any (T := "dict") b3.typeIs slot_dict_getitem.lookup (wpAny_getItem_of (knd := intKind c.prog c.w) (intKind_is _ _ _ _) b3.mapOf hv ⟨z₁, d, σ₁, g₁, Rm.tok ⟨own₁, R₁⟩, rv, q⟩) (hs _ _ _)

/-! ### list(..), sorted(dict) -/
theorem EF_listof {x : Str} {np pos : Pos} {e : Expr} {Q : Slot → St → Prop} (hb : BuiltAt c.S x (.type "list")) (hx : IsGlob c.env x = true)
    (h : EAL c e σ (fun ds σ' => ds.length ≤ 100000 ∧ Q (.lst ds) σ')) (he : starEach [e] c.env = [(false, eval e c.env)] := by rfl) : EF c (.Call (.Name x np) [e] [] pos) σ Q := by
  intro m p z s R
  refine wpAny_Call_NameR (ld_built R hx hb (callWith_type1 (spliced1 h R he fun a vs n ds z' σ' s' g R' e1 e2 q => ?_) he))
  refine call_list_seq a (T := "list") (.inl rfl) e1 rfl rfl (fun h' k hk hD => ?_) (line_of (size_small e2 q.1))
  exact ⟨z', _, σ', g, ef_new (t := s'.toks) (sl := .lst ds) R' hk (get_size _) (fun d q => by cases q) ⟨vs, k, hD, e2⟩, q.2⟩
theorem RdPairs.keyOf {z : PH} : ∀ {ps : List (Int × Value)} {kvs : List (Int × PyData)} {j : Nat} {k : Int} {x : Value}, RdPairs z ps kvs → ps[j]? = some (k, x) → (kvs.map (·.1))[j]? = some k
  | _, _, 0, k, x, .cons e r, h => by simp at h; simp [h.1]
  | _, _, j + 1, k, x, .cons e r, h => by simp at h; simpa using r.keyOf h
  | _, _, j, k, x, .nil, h => by simp at h
theorem ints_of_keys : ∀ {vs : List Value} {ns : List Int}, vs.length = ns.length → (∀ (j : Nat) (v : Value), vs[j]? = some v → ∃ (k : Int) (t : Tok), ns[j]? = some k ∧ v = Value.int k t) → IntsAre vs ns
  | [], [], _, _ => .nil
  | [], _ :: _, h, _ => by simp at h
  | _ :: _, [], h, _ => by simp at h
  | v :: vs, n :: ns, h, k => by
    obtain ⟨k', t, e1, e2⟩ := k 0 v (by simp)
    simp at e1
    subst e1 e2
    exact .cons _ _ (ints_of_keys (by simpa using h) fun j v e => by simpa using k (j + 1) v (by simpa using e))
theorem isInt_shape {k : Int} {v : Value} (h : (intKind c.prog c.w).is k v = true) : ∃ t, v = .int k t := Value.isInt_shape h

theorem sorted_dict {m : Str → Option Value} {p z : PH} {s : Shared} {a : Addr} {ps : List (Int × Value)} {kvs : List (Int × PyData)} {Q : Value → Shared → Prop} (hh : c.A.handled = none) (R : c.Rm m p z σ s) (hd : s.heap.DictOf (intKind c.prog c.w) a ps) (hr : RdPairs z ps kvs) (lo : (a == sysModules) = false) (h64 : kvs.length < 64)
    (h : ∀ (D : Addr) (vs : List Value) (k : Nat) (ns' : List Int) h' tk, (∀ b o, s.heap.get? b = some o → h'.get? b = some o) → s.heap.get? D = none → h'.get? D = some (LO vs k) → IntsAre vs ns' → ns'.Perm (kvs.map (·.1)) → ns'.Pairwise (· ≤ ·) → Q (.ref D) { s with heap := h', toks := tk }) :
    wpAny c.M c.A (call (.builtin "sorted") [.ref a]) Q NoE s := by
  obtain ⟨ep, hat⟩ := hd.dictAt
  have hl := hr.length
  refine call_function_entry kind_sorted plain_sorted entry_sorted (args_sorted1 _) ?_
  unfold Builtin.«sorted»
  refine wpAny_bind (m := checkCount "sorted" 1 1 _) (wpAny_pure ?_)
  refine wpAny_bind (kdu_collect (A := c.A.in1) (kdl_dict (knd := intKind c.prog c.w) (kvs := ps) (ep := ep) lo) hh hat (line_of (by omega)) fun h₁ tk acc hk hacc => ?_)
  have hlen : acc.toList.length = ps.length := by rw [Array.length_toList]; exact hacc.1
  refine wpAny_bind (wpAny_newList ?_ (by rw [hlen]; exact line_of (by omega)))
  have hi : IntsAre acc.toList (kvs.map (·.1)) := ints_of_keys (by rw [hlen, List.length_map]; exact hl) fun j v e => by
    obtain ⟨k, x, hx, hkv⟩ := hacc.2 j v (by rw [← Array.getElem?_toList]; exact e)
    obtain ⟨t, ht⟩ := isInt_shape hkv
    exact ⟨k, t, hr.keyOf hx, ht⟩
  have ho : (h₁.push { cls := .type "list", data := .seq acc.toList.toArray }).get? h₁.objs.size = some (seqObj "list" acc.toList.toArray 0) := Heap.get?_push_size _ rfl
  refine wpAny_bind (wpAny_holding (wpAny_call_entry slot_list_sort ⟨_, ho, rfl⟩ entry_list_sort (list_sort_tree ho hi (by rw [hlen]; omega) fun out ns' a1 a2 a3 => ⟨_, rfl, ?_⟩) (args_list_sort _)))
  obtain ⟨k, hk'⟩ := sortedHeap_at (vs := acc.toList) (out := out) ho
  refine wpAny_pure ⟨_, rfl, h h₁.objs.size out.toList k ns' _ _ (fun b o e => ?_) ?_ ?_ a1 a2 a3⟩
  · have hb := Heap.lt_size (hk _ _ e)
    rw [sortedHeap_old (Nat.ne_of_lt hb) (by rw [Heap.size_push]; exact Nat.lt_succ_of_lt hb)]
    exact Heap.get?_push_of_some _ (hk _ _ e)
  · cases e : s.heap.get? h₁.objs.size with
    | none => rfl
    | some o => exact absurd (Heap.lt_size (hk _ _ e)) (Nat.lt_irrefl _)
  · simpa using hk'
theorem EF_sorted_dict {x y : Str} {np yp pos : Pos} {kvs : List (Int × PyData)} {Q : Slot → St → Prop} (hb : BuiltAt c.S x (.builtin "sorted")) (hx : IsGlob c.env x = true) (hmod : ModsOk c.S) (hh : c.A.handled = none)
    (hσ : σ.lookup y = some (.dct kvs)) (hy : IsVar c.env y = true) (h64 : kvs.length < 64) (h : ∀ ns' : List Int, ns'.Perm (kvs.map (·.1)) → ns'.Pairwise (· ≤ ·) → Q (.lst (ns'.map .int)) σ) : EF c (.Call (.Name x np) [.Name y yp] [] pos) σ Q := by
  intro m p z s R
  refine wpAny_Call_NameR (ld_built R hx hb (call_builtin rfl rfl ?_))
  obtain ⟨own, R⟩ := R
  obtain ⟨a, ps, a1, a2, a3, a4⟩ := own_dict R hσ
  refine spliced_more (ld_var R hy a2 (spliced_none (sorted_dict hh ⟨own, R⟩ a3 a4 (lo_of R a1 hσ) h64 fun D vs k ns' h' tk b1 b2 b3 b4 b5 b6 => ?_))) rfl
  exact ⟨z, _, σ, Grow.refl, ef_new (sl := .lst (ns'.map .int)) ⟨own, R⟩ b1 b2 (fun d q => by cases q) ⟨vs, k, b3, RdAll.ofInts b4⟩, h ns' b5 b6⟩
/-- a new dict, sorted at once -/
theorem EF_sorted_new {x : Str} {np pos : Pos} {e : Expr} {Q : Slot → St → Prop} (hb : BuiltAt c.S x (.builtin "sorted")) (hx : IsGlob c.env x = true) (hmod : ModsOk c.S) (hh : c.A.handled = none)
    (h : EF c e σ (fun sl σ' => σ'.lookup tmp = none ∧ ∃ kvs, sl = .dct kvs ∧ kvs.length < 64 ∧ ∀ ns' : List Int, ns'.Perm (kvs.map (·.1)) → ns'.Pairwise (· ≤ ·) → Q (.lst (ns'.map .int)) σ')) (he : starEach [e] c.env = [(false, eval e c.env)] := by rfl) : EF c (.Call (.Name x np) [e] [] pos) σ Q := by
  intro m p z s R
  refine wpAny_Call_NameR (ld_built R hx hb (call_builtin he rfl ?_))
  refine spliced_more (wpAny_mono (h m p z s R) (fun v s₁ y => ?_) fun _ _ y => y) he
  obtain ⟨z₁, sl, σ₁, g₁, ⟨m', own, R₁, hm, ⟨b, hb'⟩, he'⟩, ht, kvs, rfl, h64, q⟩ := y
  have sa := R₁.slots tmp (.dct kvs) (by rw [List.lookup_cons]; simp)
  obtain ⟨a, a1, a2, ps, a3, a4, a5⟩ := sa
  rw [a2] at hm; cases hm
  refine spliced_none (sorted_dict hh ⟨own, R₁⟩ a3 a4 a5 h64 fun D vs k ns' h' tk b1 b2 b3 b4 b5 b6 => ?_)
  have R₂ : c.Rm m p z₁ σ₁ s₁ := ⟨_, (dropTmp R₁ ht).congr he' ht⟩
  exact ⟨z₁, _, σ₁, g₁, ef_new (sl := .lst (ns'.map .int)) R₂ b1 b2 (fun d q => by cases q) ⟨vs, k, b3, RdAll.ofInts b4⟩, q ns' b5 b6⟩

/-! ### slices -/
def sliceD {α : Type} (xs : List α) (lo hi : Option Int) : List α := (sliceRange (sliceBounds lo hi none xs.length).1 (sliceBounds lo hi none xs.length).2.1 1).filterMap (xs[·]?)
theorem RdAll.filterMap {z : PH} {vs : List Value} {ds : List PyData} (h : RdAll z vs ds) : ∀ js : List Nat, RdAll z (js.filterMap (vs[·]?)) (js.filterMap (ds[·]?))
  | [] => .nil
  | j :: js => by
    simp only [List.filterMap_cons]
    cases e : vs[j]? with
    | none =>
      have : ds[j]? = none := by
        rw [List.getElem?_eq_none_iff] at e ⊢
        rw [← h.length]; exact e
      rw [this]
      exact h.filterMap js
    | some v =>
      obtain ⟨d, e1, e2⟩ := h.getV e
      rw [e1]
      exact .cons e2 (h.filterMap js)
def EPart (c : Cx) (e : Option Expr) (σ : St) (Q : Option Int → St → Prop) : Prop :=
  ∀ m p z s, c.Rm m p z σ s → wpAny c.M c.A (evalPart e c.env) (fun v s' => ∃ z' k σ', Grow p z z' ∧ c.Rm m p z' σ' s' ∧ IsPart v k ∧ Q k σ') NoE s
theorem EPart_none {Q : Option Int → St → Prop} (h : Q none σ) : EPart c none σ Q := by
  intro m p z s R
  rw [evalPart_none]
  exact wpAny_pure ⟨z, none, σ, Grow.refl, R, .none, h⟩
theorem EPart_some {e : Expr} {Q : Option Int → St → Prop} (h : EV c e σ (fun d σ' => ∃ k, d = .int k ∧ Q (some k) σ')) : EPart c (some e) σ Q := by
  intro m p z s R
  refine evalPart_some_step (wpAny_mono (h m p z s R) (fun v s' x => ?_) fun _ _ x => x)
  obtain ⟨z', d, σ', g, R', hr, k, rfl, q⟩ := x
  cases hr
  exact ⟨z', some k, σ', g, R', .int _ _, q⟩
theorem EF_slice {e : Expr} {lo hi : Option Expr} {sp pos : Pos} {Q : Slot → St → Prop} (h : EV c e σ (fun d σ₁ => ∃ ds, d = .list ds ∧ ds.length ≤ 100000 ∧ EPart c lo σ₁ (fun l σ₂ => EPart c hi σ₂ (fun u σ₃ => Q (.lst (sliceD ds l u)) σ₃))))
    (ht : ∀ o r, letTemporaryGo e o r = pure () := by intro _ _; rfl) : EF c (.Subscript e (.Slice lo hi none sp) pos) σ Q := by
  intro m p z s R
  refine wpAny_Subscript_list_slice (wpAny_mono (h m p z s R) (fun v s₁ x => ?_) fun _ _ x => x) ht
  obtain ⟨z₁, d, σ₁, g₁, R₁, r₁, ds, rfl, hl, h₁⟩ := x
  refine wpAny_mono (h₁ m p z₁ s₁ R₁) (fun vl s₂ x => ?_) fun _ _ x => x
  obtain ⟨z₂, l, σ₂, g₂, R₂, pl, h₂⟩ := x
  refine wpAny_mono (h₂ m p z₂ s₂ R₂) (fun vu s₃ x => ?_) fun _ _ x => x
  obtain ⟨z₃, u, σ₃, g₃, ⟨own, R₃⟩, pu, q⟩ := x
  cases r₁.mono (g₂.trans g₃).1 with
  | @list a vs n _ e1 e2 =>
    refine ⟨a, vs.toArray, l, u, rfl, ⟨_, R₃.zk _ _ e1, rfl, n, rfl⟩, line_of (size_small e2 hl), pl, pu, z₃, .lst (sliceD ds l u), σ₃, (g₁.trans g₂).trans g₃, ?_, q⟩
    refine ef_new (t := s₃.toks) ⟨own, R₃⟩ (fun b o e => Heap.get?_push_of_some _ (Heap.get?_push_of_some _ e)) ?_ (fun d q => by cases q) ⟨(slicePick vs.toArray l u none).toList, 0, ?_, ?_⟩
    · cases e : s₃.heap.get? (s₃.heap.objs.size + 1) with
      | none => rfl
      | some o => exact absurd (Heap.lt_size e) (Nat.not_lt.mpr (Nat.le_succ _))
    · have := Heap.get?_push_size (s₃.heap.push { cls := .type "slice", data := .fields #[vl, vu, .none] }) (o := { cls := .type "list", data := .seq (slicePick vs.toArray l u none) }) rfl
      rw [Heap.size_push] at this
      simpa using this
    · unfold slicePick sliceD
      have hs : vs.toArray.size = ds.length := by rw [List.size_toArray, e2.length]
      have hst : (sliceBounds l u none vs.toArray.size).2.2 = 1 := rfl
      rw [hst, hs]
      have := e2.filterMap (sliceRange (sliceBounds l u none ds.length).1 (sliceBounds l u none ds.length).2.1 1)
      simpa using this
end
end

/-! # part G -/
section

section
variable {prog : Program} {w : World} {S : Shared} {p z : PH} {env : Env} {σ : St} {s : Shared} {m : Str → Option Value} {own : Str → Option Addr}

/-- an object that stands apart is turned -/
theorem RepW.but {I : Addr} {h' : Heap} {t : Nat} (R : RepW prog w S p z env σ s m own) (hI : p I = none ∧ z I = none ∧ I ≠ env.locals ∧ (∀ x c, env.cells.lookup x = some c → I ≠ c) ∧ ∀ x b, own x = some b → I ≠ b) (k : ∀ b o, b ≠ I → s.heap.get? b = some o → h'.get? b = some o) :
    RepW prog w S p z env σ { s with heap := h', toks := t } m own := by
  obtain ⟨h1, h2, h3, h4, h5⟩ := hI
  refine { R with same := ?_, pk := ?_, zk := ?_, loc := ?_, cel := ?_, op := ?_, slots := ?_ }
  · obtain ⟨h, t', e⟩ := R.same; exact ⟨h', t, by rw [e]⟩
  · exact fun a o e => k _ _ (fun q => by rw [q, h1] at e; cases e) (R.pk a o e)
  · exact fun a o e => k _ _ (fun q => by rw [q, h2] at e; cases e) (R.zk a o e)
  · obtain ⟨ml, ⟨o, es, ep, a, r⟩, b⟩ := R.loc; exact ⟨ml, ⟨o, es, ep, k _ _ (Ne.symm h3) a, r⟩, b⟩
  · intro x c e; obtain ⟨o, a, b⟩ := R.cel x c e; exact ⟨o, k _ _ (Ne.symm (h4 x c e)) a, b⟩
  · intro x a e; obtain ⟨a1, a2, a3, a4, o, a5⟩ := R.op x a e; exact ⟨a1, a2, a3, a4, o, k _ _ (Ne.symm (h5 x a e)) a5⟩
  · exact fun x sl e => (R.slots x sl e).keep (Le.refl _) fun a q o e => k _ _ (Ne.symm (h5 x a q)) e
/-- it is to stay as it is -/
theorem RepW.padd {I : Addr} {o : Obj} (R : RepW prog w S p z env σ s m own) (hI : p I = none ∧ z I = none ∧ I ≠ env.locals ∧ (∀ x c, env.cells.lookup x = some c → I ≠ c) ∧ ∀ x b, own x = some b → I ≠ b) (ho : s.heap.get? I = some o) :
    RepW prog w S (addAt p I o) z env σ s m own := by
  obtain ⟨h1, h2, h3, h4, h5⟩ := hI
  refine { R with gp := ?_, pk := ?_, lp := ?_, cp := ?_, op := ?_ }
  · exact R.gp.trans (Le.addAt h1)
  · intro a x e
    by_cases q : a = I
    · subst q; rw [addAt_self] at e; cases e; exact ho
    · rw [addAt_ne q] at e; exact R.pk a x e
  · exact ⟨by rw [addAt_ne (Ne.symm h3)]; exact R.lp.1, R.lp.2⟩
  · exact fun x c e => ⟨by rw [addAt_ne (Ne.symm (h4 x c e))]; exact (R.cp x c e).1, (R.cp x c e).2⟩
  · intro x a e; obtain ⟨a1, a2⟩ := R.op x a e; exact ⟨by rw [addAt_ne (Ne.symm (h5 x a e))]; exact a1, a2⟩
/-- less is to stay -/
theorem RepW.psub {q : PH} (R : RepW prog w S p z env σ s m own) (hq : Le q p) (hg : Le S.heap.get? q) : RepW prog w S q z env σ s m own := by
  have nn : ∀ a, p a = none → q a = none := fun a h => by
    cases e : q a with
    | none => rfl
    | some o => have := hq a o e; rw [h] at this; cases this
  exact { R with
    gp := hg
    pk := hq.trans R.pk
    lp := ⟨nn _ R.lp.1, R.lp.2⟩
    cp := fun x c e => ⟨nn _ (R.cp x c e).1, (R.cp x c e).2⟩
    op := fun x a e => by obtain ⟨a1, a2⟩ := R.op x a e; exact ⟨nn _ a1, a2⟩ }
theorem RepW.away {I : Addr} {o : Obj} (R : RepW prog w S p z env σ s m own) (h : p I = some o) : I ≠ env.locals ∧ (∀ x c, env.cells.lookup x = some c → I ≠ c) ∧ ∀ x b, own x = some b → I ≠ b := by
  refine ⟨fun q => ?_, fun x c e q => ?_, fun x b e q => ?_⟩
  · rw [q, R.lp.1] at h; cases h
  · rw [q, (R.cp x c e).1] at h; cases h
  · rw [q, (R.op x b e).1] at h; cases h
theorem Grow.less {p q z z' : PH} (h : Grow q z z') (k : Le p q) : Grow p z z' :=
  ⟨h.1, fun a o e => (h.2 a o e).imp id fun e' => by
    cases e'' : p a with
    | none => rfl
    | some x => have := k _ _ e''; rw [e'] at this; cases this⟩
end

section
variable {c : Cx} {σ : St}
/-- a target takes a value -/
def AS (c : Cx) (t : Expr) (d : PyData) (σ : St) (Q : St → Prop) : Prop :=
  ∀ p z s v, c.Rep p z σ s → Rd z v d → wpAny c.M c.A (assign t c.env v) (fun _ s' => ∃ z' σ', Grow p z z' ∧ c.Rep p z' σ' s' ∧ Q σ') NoE s
theorem AS_name {x : Str} {np : Pos} {d : PyData} {Q : St → Prop} (hx : IsVar c.env x = true) (h : Q ((x, .val d) :: σ)) : AS c (.Name x np) d σ Q := by
  intro p z s v R hr
  obtain ⟨m, own, R⟩ := R
  refine wpAny_assign_Name (store_any R hx (ow := none) (sl := .val d) ⟨_, rfl, hr⟩ (fun a e => by cases e) fun s'' m' own' R'' _ => ⟨z, _, Grow.refl, R''.rep, h⟩)
theorem AS_pair {x y : Str} {xp yp pos : Pos} {k : Nat} {a b : PyData} {Q : St → Prop} (hh : c.A.handled = none) (hx : IsVar c.env x = true) (hy : IsVar c.env y = true) (h : Q ((y, .val b) :: (x, .val a) :: σ)) : AS c (.Tuple [.Name x xp, .Name y yp] k pos) (.tuple [a, b]) σ Q := by
  intro p z s v R hr
  obtain ⟨m, own, R⟩ := R
  cases hr with
  | @tuple t vs n _ e r =>
    match vs, r with
    | [va, vb], .cons ra (.cons rb .nil) =>
      refine wpAny_assign_Tuple hh (items := #[va, vb]) ⟨_, R.zk _ _ e, rfl, _, rfl⟩ rfl rfl fun h' hk => ?_
      have R₁ : RepW c.prog c.w c.S p z c.env σ { s with heap := h', toks := s.toks } m own := R.ext fun b o e => hk b o (Nat.ne_of_lt (Heap.lt_size e)) e
      refine wpAny_assignInOrder_more (wpAny_assign_Name (store_any R₁ hx (ow := none) (sl := .val a) ⟨_, rfl, ra⟩ (fun a e => by cases e) fun s₂ m₂ own₂ R₂ _ => ?_))
      refine wpAny_assignInOrder_more (wpAny_assign_Name (store_any R₂ hy (ow := none) (sl := .val b) ⟨_, rfl, rb⟩ (fun a e => by cases e) fun s₃ m₃ own₃ R₃ _ => ?_))
      exact wpAny_assignInOrder_none ⟨z, _, Grow.refl, R₃.rep, h⟩

/-- the same loop rule, the target's own look said as a tree -/
theorem forLoop_go {R : Result → Shared → Prop} {target : Expr} {it : Value} {body orelse : List Stmt} {s : Shared} (I : Nat → Shared → Prop)
    (turn : ∀ n s, I n s → wpAny c.M c.A (pyNext it) (fun r s₁ => match r with
      | none => wpAny c.M c.A (execs orelse c.env) (fun f s₃ => R (.ok f) s₃) NoE s₁
      | some v => wpAny c.M c.A (letOwnedTupleGo target it v) (fun _ s₁ => wpAny c.M c.A (assign target c.env v) (fun _ s₂ => wpAny c.M c.A (execs body c.env) (fun f s₃ => match f with
          | .next | .cont => ∃ m, m < n ∧ I m s₃
          | .brk => R (.ok .next) s₃
          | .ret v => R (.ok (.ret v)) s₃) NoE s₂) NoE s₁) NoE s₁) NoE s)
    (n : Nat) (h : I n s) : codeAny c.M c.A (.forLoop target it body orelse c.env) R s := by
  refine codeAny_loop' rfl I (fun n s hI => ?_) n h
  show wpAny _ _ ((forTurn target it body orelse c.env).onRaise (fun x => do noteFrame x c.env; theTreesLotGoes x)) _ _ s
  refine wpAny_noted ?_
  refine noE ?_
  simp only [forTurn]
  refine wpAny_bind (wpAny_standAt (wpAny_bind (wpAny_onRaise (wpAny_mono (turn n s hI) (fun r s₁ h₁ => ?_) fun _ _ h' => h'.elim))))
  cases r with
  | none => exact wpAny_pure (.inr ⟨rfl, codeAny_block (wpAny_mono h₁ (fun _ _ x => x) fun _ _ x => x.elim)⟩)
  | some v =>
    refine wpAny_bind (wpAny_mono h₁ (fun _ s₁ h₁ => ?_) fun _ _ h' => h')
    refine wpAny_bind (wpAny_mono h₁ (fun _ s₂ h₂ => wpAny_bind (wpAny_mono h₂ (fun f s₃ h₃ => ?_) fun _ _ h' => h')) fun _ _ h' => h')
    cases f with
    | next => exact wpAny_pure (.inl ⟨rfl, h₃⟩)
    | cont => exact wpAny_pure (.inl ⟨rfl, h₃⟩)
    | brk => exact wpAny_pure h₃
    | ret v => exact wpAny_pure h₃

/-- a walk whose items are data: a list's, a range's -/
structure WalkD (c : Cx) (I : Addr) (fp : List Addr) (ds : List PyData) (St : Nat → Heap → Prop) (z : PH) : Prop where
  W : ∃ P, Walks c.prog c.w c.A I fp [I] ds.length P St ∧ ∀ i v d, P i v → ds[i]? = some d → Rd z v d
  io : ∀ i h, St i h → ∃ o, h.get? I = some o
  stay : ∀ b ∈ fp, b = I ∨ ∃ o, z b = some o

theorem for_walk {target : Expr} {body : List Stmt} {I : Addr} {fp : List Addr} {ds : List PyData} {Sh : Nat → Heap → Prop} {p z : PH} {s : Shared} {Q : Out → St → Prop} {z₀ : PH} {RR : Result → Shared → Prop}
    (W : WalkD c I fp ds Sh z) (R : c.Rep p z σ s) (g₀ : Grow p z₀ z) (hst : Sh 0 s.heap) (hp : p I = none) (hz : z I = none)
    (hI : ∃ m own, c.RepW p z σ s m own ∧ I ≠ c.env.locals ∧ (∀ x k, c.env.cells.lookup x = some k → I ≠ k) ∧ ∀ x b, own x = some b → I ≠ b)
    (go : ∀ i s v, Sh i s.heap → (∃ d, Rd z v d) → ∀ Q' : Unit → Shared → Prop, Q' () s → wpAny c.M c.A (letOwnedTupleGo target (.ref I) v) Q' NoE s)
    (Inv : List PyData → St → Prop) (hi : Inv ds σ)
    (turn : ∀ d rest σ, Inv (d :: rest) σ → AS c target d σ (fun σ' => XS c body σ' (fun o σ'' => match o with | .next | .cont => Inv rest σ'' | .brk => Q .next σ'' | o => Q o σ'')))
    (done : ∀ σ, Inv [] σ → Q .next σ)
    (hRR : ∀ f o z' σ' s', Grow p z₀ z' → c.Rep p z' σ' s' → FlowRd p z' f o → Q o σ' → RR (.ok f) s') :
    codeAny c.M c.A (.forLoop target (.ref I) body [] c.env) RR s := by
  obtain ⟨⟨P, W', hP⟩, hio, hstay⟩ := W
  obtain ⟨m₀, own₀, R₀, hI₀⟩ := hI
  refine forLoop_go (fun n s' => ∃ i z' σ' m' own', i ≤ ds.length ∧ n = ds.length + 1 - i ∧ Sh i s'.heap ∧ c.RepW p z' σ' s' m' own' ∧ Grow p z z' ∧ z' I = none ∧ (I ≠ c.env.locals ∧ (∀ x k, c.env.cells.lookup x = some k → I ≠ k) ∧ ∀ x b, own' x = some b → I ≠ b) ∧ Inv (ds.drop i) σ') ?_ (ds.length + 1)
    ⟨0, z, σ, m₀, own₀, Nat.zero_le _, rfl, hst, R₀, Grow.refl, hz, hI₀, by simpa using hi⟩
  rintro n s' ⟨i, z', σ', m', own', hle, rfl, hst', R', g', hz', hI', inv⟩
  by_cases hlt : i < ds.length
  · refine W'.item i s' _ _ hlt hst' fun v h₁ t₁ hPv hst₁ hk₁ => ?_
    have hd : ds[i]? = some ds[i] := List.getElem?_eq_getElem hlt
    have rv : Rd z v ds[i] := hP i v _ hPv hd
    have kb : ∀ b o, b ≠ I → s'.heap.get? b = some o → h₁.get? b = some o := fun b o n e => hk₁ b o (by simpa using n) e
    have R₁ := R'.but (t := t₁) ⟨hp, hz', hI'⟩ kb
    obtain ⟨oI, hoI⟩ := hio _ _ hst₁
    have R₂ := R₁.padd ⟨hp, hz', hI'⟩ hoI
    have pl : Le p (addAt p I oI) := Le.addAt hp
    refine go (i + 1) _ v hst₁ ⟨_, rv⟩ _ ?_
    have hdrop : ds.drop i = ds[i] :: ds.drop (i + 1) := (List.drop_eq_getElem_cons hlt)
    rw [hdrop] at inv
    refine wpAny_mono (turn _ _ _ inv _ _ _ v R₂.rep (rv.mono g'.1)) (fun _ s₂ x => ?_) fun _ _ x => x
    obtain ⟨z₂, σ₂, g₂, R₃, body⟩ := x
    refine wpAny_mono (body _ _ _ R₃) (fun f s₃ x => ?_) fun _ _ x => x
    obtain ⟨z₃, o, σ₃, g₃, ⟨m₄, own₄, R₄⟩, hf, q⟩ := x
    have g₄ := (g₂.trans g₃)
    have R₅ : c.RepW p z₃ σ₃ s₃ m₄ own₄ := R₄.psub pl R'.gp
    have gg : Grow p z z₃ := g'.trans (g₄.less pl)
    have hz₃ : z₃ I = none := by
      cases e : z₃ I with
      | none => rfl
      | some x =>
        rcases g₄.2 I x e with e' | e'
        · rw [hz'] at e'; cases e'
        · rw [addAt_self] at e'; cases e'
    have go' : Inv (ds.drop (i + 1)) σ₃ → ∃ m, m < ds.length + 1 - i ∧ ∃ i' z' σ' m' own', i' ≤ ds.length ∧ m = ds.length + 1 - i' ∧ Sh i' s₃.heap ∧ c.RepW p z' σ' s₃ m' own' ∧ Grow p z z' ∧ z' I = none ∧ (I ≠ c.env.locals ∧ (∀ x k, c.env.cells.lookup x = some k → I ≠ k) ∧ ∀ x b, own' x = some b → I ≠ b) ∧ Inv (ds.drop i') σ' := fun inv' => by
      refine ⟨ds.length + 1 - (i + 1), by omega, i + 1, z₃, σ₃, m₄, own₄, hlt, rfl, ?_, R₅, gg, hz₃, R₄.away (addAt_self _ _ _), inv'⟩
      refine W'.frame _ _ _ hst₁ fun b hb o e => ?_
      rcases hstay b hb with rfl | ⟨o', e'⟩
      · have e2 : h₁.get? b = some o := e
        rw [hoI] at e2; cases e2
        exact R₄.pk _ _ (addAt_self _ _ _)
      · have h1 := R₁.zk _ _ (g'.1 _ _ e')
        have h2 : h₁.get? b = some o' := h1
        rw [h2] at e; cases e
        exact R₄.zk _ _ (g₄.1 _ _ (g'.1 _ _ e'))
    cases f with
    | next => cases o <;> first | exact hf.elim | exact go' q
    | cont => cases o <;> first | exact hf.elim | exact go' q
    | brk => cases o <;> first | exact hf.elim | exact hRR .next .next z₃ σ₃ s₃ (g₀.trans gg) R₅.rep trivial q
    | ret u =>
      cases o with
      | ret d => exact hRR (.ret u) (.ret d) z₃ σ₃ s₃ (g₀.trans gg) R₅.rep hf q
      | fresh ns =>
        obtain ⟨a, vs, n, e1, e2, e3, e4⟩ := hf
        refine hRR (.ret u) (.fresh ns) z₃ σ₃ s₃ (g₀.trans gg) R₅.rep ⟨a, vs, n, e1, ?_, e3, e4⟩ q
        cases e : p a with
        | none => rfl
        | some x => have := pl _ _ e; rw [e2] at this; cases this
      | next => exact hf.elim
      | cont => exact hf.elim
      | brk => exact hf.elim
  · have hi' : i = ds.length := Nat.le_antisymm hle (Nat.not_lt.mp hlt)
    subst hi'
    refine W'.done s' _ _ hst' fun h₁ t₁ hk₁ => ?_
    have R₁ := R'.but (t := t₁) ⟨hp, hz', hI'⟩ fun b o n e => hk₁ b o (by simpa using n) e
    rw [List.drop_length] at inv
    exact wpAny_execs_nil (hRR .next .next z' σ' _ (g₀.trans g') R₁.rep trivial (done _ inv))

theorem X_for {target iter : Expr} {body : List Stmt} {pos : Pos} {Q : Out → St → Prop} (hh : c.A.handled = none) (Inv : List PyData → St → Prop)
    (h : EV c iter σ (fun d σ₁ => ∃ ds, d = .list ds ∧ Inv ds σ₁))
    (turn : ∀ d rest σ, Inv (d :: rest) σ → AS c target d σ (fun σ' => XS c body σ' (fun o σ'' => match o with | .next | .cont => Inv rest σ'' | .brk => Q .next σ'' | o => Q o σ'')))
    (done : ∀ σ, Inv [] σ → Q .next σ)
    (ht : (∀ it v, letOwnedTupleGo target it v = pure ()) ∨ ∃ elts k tp, target = .Tuple elts k tp)
    (hs : ∀ x, foldedSetIterable iter c.env x = pure x := by intro _; rfl) : X1 c (.For target iter body [] pos) σ Q := by
  intro p z s R
  obtain ⟨m, R⟩ := R
  refine wpAny_For (wpAny_mono (h m p z s R) (fun xv s₁ x => ?_) fun _ _ x => x) hs
  obtain ⟨z₁, d, σ₁, g₁, ⟨own₁, R₁⟩, r₁, ds, rfl, inv⟩ := x
  cases r₁ with
  | @list ax vs n _ e r =>
    have hlen := r.length
    have hl : s₁.heap.get? ax = some (LO vs n) := R₁.zk _ _ e
    refine wpAny_pyIter_list (items := vs.toArray) ⟨_, hl, rfl, n, rfl⟩ ?_
    have hne : ax ≠ s₁.heap.objs.size := Nat.ne_of_lt (Heap.lt_size hl)
    have ap := R₁.apart (get_size s₁.heap)
    have R₂ := R₁.ext (h' := s₁.heap.push { cls := .type "list_iterator", data := .fields #[.ref ax, .int 0 0] }) (t := s₁.toks) fun b o e => Heap.get?_push_of_some _ e
    have hW := Walks.list (prog := c.prog) (w := c.w) hh s₁.heap.objs.size ax hne vs.toArray
    have hsz : vs.toArray.size = ds.length := by simpa using hlen
    rw [hsz] at hW
    refine codeAny_mono (for_walk (Q := Q) (z₀ := z) (σ := σ₁) (z := z₁) (RR := fun r s' => match r with | .ok f => ∃ z' o σ', Grow p z z' ∧ c.Rep p z' σ' s' ∧ FlowRd p z' f o ∧ Q o σ' | .error e => False) (I := s₁.heap.objs.size) (fp := [s₁.heap.objs.size, ax]) (ds := ds)
      ⟨⟨_, hW, fun i v d hv hd => ?_⟩, fun i h st => ?_, fun b hb => ?_⟩ R₂.rep g₁ ⟨⟨_, Heap.get?_push_size _ rfl, rfl, rfl⟩, ⟨_, Heap.get?_push_of_some _ hl, rfl, n, rfl⟩⟩ ap.1 ap.2.1 ⟨m, own₁, R₂, ap.2.2⟩ (fun i s v st hv Q' hQ' => ?_) Inv inv turn done
      fun f o z' σ' s' g R' hf q => ⟨z', o, σ', g, R', hf, q⟩) fun r s' x => ?_
    · obtain ⟨u, hu, ru⟩ := r.get hd
      have hv' : vs[i]? = some v := by simpa using hv
      rw [hv'] at hu; cases hu
      exact ru
    · obtain ⟨o, e, _⟩ := st.1; exact ⟨o, e⟩
    · rcases List.mem_cons.mp hb with rfl | hb
      · exact .inl rfl
      · rw [List.mem_singleton.mp hb]; exact .inr ⟨_, e⟩
    · rcases ht with ht | ⟨elts, k, tp, rfl⟩
      · rw [ht]; exact wpAny_pure hQ'
      · obtain ⟨d, hv⟩ := hv
        cases hv with
        | list e' r' => exact wpAny_letOwnedTupleGo_listiter st.1 hQ'
        | tuple e' r' => exact wpAny_letOwnedTupleGo_listiter st.1 hQ'
        | none => exact wpAny_pure hQ'
        | bool b => exact wpAny_pure hQ'
        | int i t => exact wpAny_pure hQ'
        | str x t => exact wpAny_pure hQ'
    · cases r with
      | ok f => exact x
      | error e => exact x.elim

/-- a loop over a range from nought by ones -/
theorem X_for_range {x rn : Str} {xp rp cp pos : Pos} {e : Expr} {body : List Stmt} {Q : Out → St → Prop} (hh : c.A.handled = none) (hb : BuiltAt c.S rn (.type "range")) (hx : IsGlob c.env rn = true) (Inv : List PyData → St → Prop) (hv : IsVar c.env x = true)
    (h : EV c e σ (fun d σ₁ => ∃ j : Int, d = .int j ∧ -100 < j ∧ j < 100000 ∧ Inv ((List.range j.toNat).map fun (i : Nat) => .int i) σ₁))
    (turn : ∀ d rest σ, Inv (d :: rest) σ → XS c body ((x, .val d) :: σ) (fun o σ'' => match o with | .next | .cont => Inv rest σ'' | .brk => Q .next σ'' | o => Q o σ''))
    (done : ∀ σ, Inv [] σ → Q .next σ) (he : starEach [e] c.env = [(false, eval e c.env)] := by rfl)
    (hs : ∀ x, foldedSetIterable (.Call (.Name rn rp) [e] [] cp) c.env x = pure x := by intro _; rfl) : X1 c (.For (.Name x xp) (.Call (.Name rn rp) [e] [] cp) body [] pos) σ Q := by
  intro p z s R
  obtain ⟨m, R⟩ := R
  refine wpAny_For (wpAny_Call_NameR (ld_built R hx hb (callWith_type1 (spliced_more (wpAny_mono (h m p z s R) (fun xv s₁ x => ?_) fun _ _ x => x) he) he))) hs
  obtain ⟨z₁, d, σ₁, g₁, ⟨own₁, R₁⟩, r₁, j, rfl, hj0, hj, inv⟩ := x
  cases r₁ with
  | int _ t =>
    obtain ⟨n, hn'⟩ : ∃ n : Nat, n = j.toNat := ⟨_, rfl⟩
    rw [← hn'] at inv
    have hn : n < 100000 := by omega
    obtain ⟨ml, hml, F, N⟩ := R₁.fr
    refine spliced_none (range1_rows F N fun h' tk t₁ u₁ v₁ hr F' N' hk => ?_)
    have hsize : Builtin.Range.rangeSize 0 j 1 = ((n : Nat) : Int) := by unfold Builtin.Range.rangeSize; simp; omega
    refine wpAny_pyIter_range hr (small_one (by omega) (by omega) (by omega) (by omega)) ?_
    have R₂ := R₁.ext (h' := h') (t := tk) hk
    have ap := R₂.apart (get_size h')
    have R₃ := R₂.ext (h' := h'.push { cls := .type "range_iterator", data := .fields #[rawInt 0, rawInt (Builtin.Range.rangeSize 0 j 1), rawInt 1] }) (t := tk) fun b o e => Heap.get?_push_of_some _ e
    have hW := LCg.range_walks (prog := c.prog) (w := c.w) (I := h'.objs.size) hh 0 n
    have hlen : ((List.range n).map fun (i : Nat) => PyData.int i).length = n := by simp
    refine codeAny_mono (for_walk (Q := Q) (z₀ := z) (σ := σ₁) (z := z₁) (RR := fun r s' => match r with | .ok f => ∃ z' o σ', Grow p z z' ∧ c.Rep p z' σ' s' ∧ FlowRd p z' f o ∧ Q o σ' | .error e => False) (I := h'.objs.size) (fp := [h'.objs.size]) (ds := (List.range n).map fun (i : Nat) => PyData.int i)
      ⟨⟨_, by rw [hlen]; exact hW, fun i v d hv hd => ?_⟩, fun i h st => ⟨_, st⟩, fun b hb => .inl (List.mem_singleton.mp hb)⟩ R₃.rep g₁ ?_ ap.1 ap.2.1 ⟨m, own₁, R₃, ap.2.2⟩ (fun i s v st hv Q' hQ' => wpAny_pure hQ') Inv inv (fun d rest σ i => AS_name hv (turn d rest σ i)) done
      fun f o z' σ' s' g R' hf q => ⟨z', o, σ', g, R', hf, q⟩) fun r s' x => ?_
    · obtain ⟨t, rfl⟩ := hv
      simp only [List.getElem?_map] at hd
      cases e : (List.range n)[i]? with
      | none => rw [e] at hd; cases hd
      | some j =>
        rw [e] at hd
        have := (List.getElem?_eq_some_iff.mp e).2
        simp only [List.getElem_range] at this
        subst this
        cases hd
        simp only [Int.zero_add]
        exact .int _ _
    · show IsRangeIter _ _ _ _ _
      rw [hsize]
      simpa using Heap.get?_push_size _ rfl
    · cases r with
      | ok f => exact x
      | error e => exact x.elim

/-- while -/
theorem X_while {test : Expr} {body : List Stmt} {pos : Pos} {Q : Out → St → Prop} (Inv : Nat → St → Prop) (n : Nat) (h : Inv n σ)
    (turn : ∀ n σ, Inv n σ → TV c test σ (fun b σ' => if b then XS c body σ' (fun o σ'' => match o with | .next | .cont => ∃ k, k < n ∧ Inv k σ'' | .brk => Q .next σ'' | o => Q o σ'') else Q .next σ')) : X1 c (.While test body [] pos) σ Q := by
  intro p z s R
  refine wpAny_While (codeAny_whileLoop (fun n s' => ∃ z' σ', Grow p z z' ∧ c.Rep p z' σ' s' ∧ Inv n σ') ?_ n ⟨z, σ, Grow.refl, R, h⟩)
  rintro n s' ⟨z', σ', g', ⟨m, R'⟩, inv⟩
  refine noE (wpAny_mono (turn n σ' inv m p z' s' R') (fun b s₂ x => ?_) fun _ _ x => x)
  obtain ⟨z₂, σ₂, g₂, R₂, q⟩ := x
  cases b with
  | false => exact wpAny_execs_nil ⟨z₂, .next, σ₂, g'.trans g₂, ⟨m, R₂⟩, trivial, q⟩
  | true =>
    refine noE (wpAny_mono (q p z₂ s₂ ⟨m, R₂⟩) (fun f s₃ x => ?_) fun _ _ x => x)
    obtain ⟨z₃, o, σ₃, g₃, R₃, hf, q⟩ := x
    have gg := (g'.trans g₂).trans g₃
    cases f with
    | next =>
      cases o with
      | next => obtain ⟨k, hk, i⟩ := q; exact ⟨k, hk, z₃, σ₃, gg, R₃, i⟩
      | _ => exact hf.elim
    | cont =>
      cases o with
      | cont => obtain ⟨k, hk, i⟩ := q; exact ⟨k, hk, z₃, σ₃, gg, R₃, i⟩
      | _ => exact hf.elim
    | brk => cases o <;> first | exact hf.elim | exact ⟨z₃, .next, σ₃, gg, R₃, trivial, q⟩
    | ret u =>
      cases o with
      | ret d => exact ⟨z₃, .ret d, σ₃, gg, R₃, hf, q⟩
      | fresh d => exact ⟨z₃, .fresh d, σ₃, gg, R₃, hf, q⟩
      | _ => exact hf.elim
end
end

/-! # part H -/
section

/-- an address that no one has to do with -/
structure Apart (p z : PH) (env : Env) (own : Str → Option Addr) (a : Addr) : Prop where
  p_ : p a = none
  z_ : z a = none
  l_ : a ≠ env.locals
  c_ : ∀ x c, env.cells.lookup x = some c → a ≠ c
  o_ : ∀ x b, own x = some b → a ≠ b

open Classical in
noncomputable def pIn (s : Shared) (C : Addr) (cl : List (Str × Addr)) (own : Str → Option Addr) : PH := fun a =>
  if a = C ∨ (∃ y k, cl.lookup y = some k ∧ a = k) ∨ (∃ y k, cl.lookup y = some k ∧ own y = some a) then none else s.heap.get? a
theorem pIn_out {s : Shared} {C : Addr} {cl : List (Str × Addr)} {own : Str → Option Addr} {a : Addr} (h1 : a ≠ C) (h2 : ∀ y k, cl.lookup y = some k → a ≠ k) (h3 : ∀ y k, cl.lookup y = some k → own y ≠ some a) : pIn s C cl own a = s.heap.get? a := by
  unfold pIn
  rw [if_neg]
  rintro (q | ⟨y, k, e, q⟩ | ⟨y, k, e, q⟩)
  · exact h1 q
  · exact h2 y k e q
  · exact h3 y k e q
theorem pIn_in {s : Shared} {C : Addr} {cl : List (Str × Addr)} {own : Str → Option Addr} {a : Addr} (h : a = C ∨ (∃ y k, cl.lookup y = some k ∧ a = k) ∨ (∃ y k, cl.lookup y = some k ∧ own y = some a)) : pIn s C cl own a = none := by
  unfold pIn; rw [if_pos h]
theorem pIn_none {s : Shared} {C : Addr} {cl : List (Str × Addr)} {own : Str → Option Addr} {a : Addr} (h : pIn s C cl own a = none) : s.heap.get? a = none ∨ a = C ∨ (∃ y k, cl.lookup y = some k ∧ a = k) ∨ (∃ y k, cl.lookup y = some k ∧ own y = some a) := by
  unfold pIn at h
  split at h
  · rename_i q; exact .inr q
  · exact .inl h

/-- how a comprehension's block sees its frame -/
structure BlockOk (scope : Scope) (cl : List (Str × Addr)) (env : Env) (x : Str) : Prop where
  sub : ∀ y k, cl.lookup y = some k → env.cells.lookup y = some k
  has : ∀ C y, (compEnvC scope cl C env).kindOf y = some .cell → ∃ k, cl.lookup y = some k
  nl : ∀ C y k, cl.lookup y = some k → (compEnvC scope cl C env).kindOf y ≠ some .local
  ti : ∀ C, (compEnvC scope cl C env).kindOf tmp = none
  xl : ∀ C, (compEnvC scope cl C env).kindOf x = some .local
  xs : scope.names.lookup x = some .local
  kind : scope.kind = .function
  nocell : ∀ y ∈ scope.names, y.2 ≠ .cell
  names : ∀ y ∈ scope.names, y.2 = .local → scope.names.lookup y.1 = some .local
  clos : closureFor scope env = pure cl

section
variable {prog : Program} {w : World} {S : Shared} {p z : PH} {env : Env} {σ : St} {s : Shared} {m : Str → Option Value} {own : Str → Option Addr}

theorem comp_enter {C : Addr} {cl : List (Str × Addr)} {scope : Scope} {x : Str} {mC : Str → Option Value} {v : Value} {d : PyData} {σi : St} (R : RepW prog w S p z env σ s m own) (ok : BlockOk scope cl env x) (hC : Apart p z env own C) (hn : s.heap.Ns C mC) (hx : mC x = some v) (hr : Rd z v d)
    (hσ : ∀ q ∈ σi, (cl.lookup q.1).isSome = true ∧ σ.lookup q.1 = some q.2) :
    RepW prog w S (pIn s C cl own) z (compEnvC scope cl C env) ((x, .val d) :: σi) s (fun y => if (compEnvC scope cl C env).kindOf y = some .local then mC y else m y) (fun y => if (cl.lookup y).isSome then own y else none) := by
  have tcn : cl.lookup tmp = none := by
    cases e : cl.lookup tmp with
    | none => rfl
    | some k => have := ok.sub _ _ e; rw [R.tc] at this; cases this
  refine { same := R.same, gp := ?_, pk := ?_, zk := R.zk, fk := ?_, fg := R.fg, fb := R.fb, ti := ok.ti C, tc := tcn, loc := ⟨mC, hn, fun y hy => by simp only [hy, if_true]⟩, cel := ?_, kc := fun y e => ok.has C y e, lp := ⟨pIn_in (.inl rfl), hC.z_⟩, cp := ?_, cc := ?_, cl := ?_, op := ?_, oo := ?_, slots := ?_ }
  · intro a o e
    have hp := R.gp a o e
    rw [pIn_out]
    · exact R.pk a o hp
    · intro q; rw [q, hC.p_] at hp; cases hp
    · intro y k e q; rw [q, (R.cp y k (ok.sub y k e)).1] at hp; cases hp
    · intro y k e q; rw [(R.op y a q).1] at hp; cases hp
  · intro a o e
    unfold pIn at e
    split at e
    · cases e
    · exact e
  · exact ok.kind
  · intro y k e
    rw [if_neg (ok.nl C y k e)]
    exact R.cel y k (ok.sub y k e)
  · intro y k e
    exact ⟨pIn_in (.inr (.inl ⟨y, k, e, rfl⟩)), (R.cp y k (ok.sub y k e)).2.1, Ne.symm (hC.c_ y k (ok.sub y k e))⟩
  · intro y y' k e e'
    exact R.cc y y' k (ok.sub _ _ e) (ok.sub _ _ e')
  · exact fun y k e => ok.nl C y k e
  · intro y a e
    cases q : cl.lookup y with
    | none => simp [q] at e
    | some k =>
      simp only [q, Option.isSome_some, if_true] at e
      obtain ⟨a1, a2, a3, a4, a5⟩ := R.op y a e
      exact ⟨pIn_in (.inr (.inr ⟨y, k, q, e⟩)), a2, Ne.symm (hC.o_ y a e), fun y' k' e' => a4 y' k' (ok.sub _ _ e'), a5⟩
  · intro y y' a e e'
    cases q : cl.lookup y with
    | none => simp [q] at e
    | some k =>
      cases q' : cl.lookup y' with
      | none => simp [q'] at e'
      | some k' =>
        simp only [q, q', Option.isSome_some, if_true] at e e'
        exact R.oo y y' a e e'
  · intro y sl e
    rw [List.lookup_cons] at e
    cases hb : y == x with
    | true =>
      rw [hb] at e; cases e
      have := eq_of_beq hb
      subst this
      exact ⟨v, by simp only [ok.xl C, if_true]; exact hx, hr⟩
    | false =>
      rw [hb] at e
      obtain ⟨h1, h2⟩ := hσ _ (mem_of_lookup e)
      obtain ⟨k, hk⟩ := Option.isSome_iff_exists.mp h1
      have := R.slots y sl h2
      simp only [h1, if_true, if_neg (ok.nl C y k hk)]
      exact this

theorem comp_leave {C : Addr} {cl : List (Str × Addr)} {scope : Scope} {x : Str} {σ' σ₂ : St} {s' : Shared} {z' : PH} {mi : Str → Option Value} {own' : Str → Option Addr} (R : RepW prog w S p z env σ s m own) (ok : BlockOk scope cl env x) (hC : Apart p z env own C)
    (R' : RepW prog w S (pIn s C cl own) z' (compEnvC scope cl C env) σ' s' mi own') (hmi : ∀ y, (compEnvC scope cl C env).kindOf y ≠ some .local → mi y = m y) (g : Grow (pIn s C cl own) z z')
    (hσ : ∀ q ∈ σ₂, ((cl.lookup q.1).isSome = true ∧ σ'.lookup q.1 = some q.2) ∨ (cl.lookup q.1 = none ∧ σ.lookup q.1 = some q.2)) :
    RepW prog w S p z' env σ₂ s' m (fun y => if (cl.lookup y).isSome then own' y else own y) ∧ Grow p z z' := by
  -- what stands outside of the block
  have outL : pIn s C cl own env.locals = s.heap.get? env.locals := pIn_out (Ne.symm hC.l_) (fun y k e => Ne.symm (R.cp y k (ok.sub y k e)).2.2) fun y k e q => (R.op y _ q).2.2.1 rfl
  have outC : ∀ y k, env.cells.lookup y = some k → cl.lookup y = none → pIn s C cl own k = s.heap.get? k := fun y k e n =>
    pIn_out (Ne.symm (hC.c_ y k e)) (fun y' k' e' q => by
      have := R.cc y y' k e (q ▸ ok.sub _ _ e')
      rw [this, e'] at n; cases n) fun y' k' e' q => (R.op y' _ q).2.2.2.1 y k e rfl
  have outO : ∀ y a, own y = some a → cl.lookup y = none → pIn s C cl own a = s.heap.get? a := fun y a e n =>
    pIn_out (Ne.symm (hC.o_ y a e)) (fun y' k' e' => (R.op y a e).2.2.2.1 y' k' (ok.sub _ _ e')) fun y' k' e' q => by
      have := R.oo y y' a e q
      rw [this, e'] at n; cases n
  have znone : ∀ a, z a = none → (∃ o, pIn s C cl own a = some o) → z' a = none := fun a h ⟨o, e⟩ => by
    cases q : z' a with
    | none => rfl
    | some x =>
      rcases g.2 a x q with q' | q'
      · rw [h] at q'; cases q'
      · rw [e] at q'; cases q'
  have pnone : ∀ a, pIn s C cl own a = none → p a = none := fun a h => by
    rcases pIn_none h with q | rfl | ⟨y, k, e, rfl⟩ | ⟨y, k, e, q⟩
    · cases e : p a with
      | none => rfl
      | some o => have := R.pk _ _ e; rw [q] at this; cases this
    · exact hC.p_
    · exact (R.cp y _ (ok.sub _ _ e)).1
    · exact (R.op y a q).1
  have keepP : ∀ a o, p a = some o → s'.heap.get? a = some o := fun a o e => by
    refine R'.pk a o ?_
    cases q : pIn s C cl own a with
    | none => rw [pnone a q] at e; cases e
    | some o' =>
      have h1 : pIn s C cl own a = s.heap.get? a := by
        unfold pIn at q ⊢
        split at q
        · cases q
        · rename_i h; rw [if_neg h]
      rw [h1, R.pk _ _ e] at q; exact q.symm
  obtain ⟨mlL, ⟨oL, es, ep, hL, rL⟩, hml⟩ := R.loc
  refine ⟨{ same := R'.same, gp := R.gp, pk := keepP, zk := R'.zk, fk := R.fk, fg := R.fg, fb := R.fb, ti := R.ti, tc := R.tc, loc := ⟨mlL, ⟨oL, es, ep, R'.pk _ _ (outL.trans hL), rL⟩, hml⟩, cel := ?_, kc := R.kc, lp := ⟨R.lp.1, znone _ R.lp.2 ⟨oL, outL.trans hL⟩⟩, cp := ?_, cc := R.cc, cl := R.cl, op := ?_, oo := ?_, slots := ?_ }, g.1, fun a o e => (g.2 a o e).imp id (pnone a)⟩
  · intro y k e
    cases q : cl.lookup y with
    | some k' =>
      have : k = k' := by have := ok.sub _ _ q; rw [e] at this; exact Option.some.inj this
      subst this
      have := R'.cel y k q
      rw [hmi y (ok.nl C y k q)] at this
      exact this
    | none =>
      obtain ⟨o, ho, hd⟩ := R.cel y k e
      exact ⟨o, R'.pk _ _ ((outC y k e q).trans ho), hd⟩
  · intro y k e
    refine ⟨(R.cp y k e).1, ?_, (R.cp y k e).2.2⟩
    cases q : cl.lookup y with
    | some k' =>
      have : k = k' := by have := ok.sub _ _ q; rw [e] at this; exact Option.some.inj this
      subst this
      exact (R'.cp y k q).2.1
    | none =>
      obtain ⟨o, ho, hd⟩ := R.cel y k e
      exact znone _ (R.cp y k e).2.1 ⟨o, (outC y k e q).trans ho⟩
  · intro y a e
    cases q : cl.lookup y with
    | some k' =>
      simp only [q, Option.isSome_some, if_true] at e
      obtain ⟨a1, a2, a3, a4, a5⟩ := R'.op y a e
      refine ⟨pnone a a1, a2, fun h => ?_, fun y' k e' h => ?_, a5⟩
      · rw [h, outL, hL] at a1; cases a1
      · cases q' : cl.lookup y' with
        | some k'' =>
          have : k = k'' := by have := ok.sub _ _ q'; rw [e'] at this; exact Option.some.inj this
          subst this
          exact a4 y' k q' h
        | none =>
          obtain ⟨o, ho, hd⟩ := R.cel y' k e'
          rw [h, outC y' k e' q', ho] at a1; cases a1
    | none =>
      simp only [q, Option.isSome_none, Bool.false_eq_true, if_false] at e
      obtain ⟨a1, a2, a3, a4, o, a5⟩ := R.op y a e
      have := (outO y a e q).trans a5
      exact ⟨a1, znone _ a2 ⟨o, this⟩, a3, a4, o, R'.pk _ _ this⟩
  · intro y y' a e e'
    cases q : cl.lookup y with
    | some k =>
      cases q' : cl.lookup y' with
      | some k' =>
        simp only [q, q', Option.isSome_some, if_true] at e e'
        exact R'.oo y y' a e e'
      | none =>
        simp only [q, q', Option.isSome_some, Option.isSome_none, Bool.false_eq_true, if_true, if_false] at e e'
        obtain ⟨_, _, _, _, o, a5⟩ := R.op y' a e'
        have := (R'.op y a e).1
        rw [outO y' a e' q', a5] at this; cases this
    | none =>
      cases q' : cl.lookup y' with
      | some k' =>
        simp only [q, q', Option.isSome_some, Option.isSome_none, Bool.false_eq_true, if_true, if_false] at e e'
        obtain ⟨_, _, _, _, o, a5⟩ := R.op y a e
        have := (R'.op y' a e').1
        rw [outO y a e q, a5] at this; cases this
      | none =>
        simp only [q, q', Option.isSome_none, Bool.false_eq_true, if_false] at e e'
        exact R.oo y y' a e e'
  · intro y sl e
    rcases hσ _ (mem_of_lookup e) with ⟨h1, h2⟩ | ⟨h1, h2⟩
    · obtain ⟨k, hk⟩ := Option.isSome_iff_exists.mp h1
      have := R'.slots y sl h2
      rw [hmi y (ok.nl C y k hk)] at this
      simp only [h1, if_true]
      exact this
    · simp only [h1, Option.isSome_none, Bool.false_eq_true, if_false]
      refine (R.slots y sl h2).keep g.1 fun a q o e => ?_
      exact R'.pk _ _ ((outO y a q h1).trans e)
end
end

/-! # part I -/
section

section
variable {prog : Program} {w : World} {S : Shared} {p z : PH} {env : Env} {σ : St} {s : Shared} {m : Str → Option Value} {own : Str → Option Addr}
theorem RepW.apart' (R : RepW prog w S p z env σ s m own) {a : Addr} (h : s.heap.get? a = none) : Apart p z env own a :=
  let ⟨a1, a2, a3, a4, a5⟩ := R.apart h; ⟨a1, a2, a3, a4, a5⟩
theorem Apart.all {a : Addr} (h : Apart p z env own a) : p a = none ∧ z a = none ∧ a ≠ env.locals ∧ (∀ x c, env.cells.lookup x = some c → a ≠ c) ∧ ∀ x b, own x = some b → a ≠ b := ⟨h.p_, h.z_, h.l_, h.c_, h.o_⟩
end

section
variable {c : Cx} {σ : St}
/-- what a loop of a comprehension goes over -/
def ESrc (c : Cx) (iter : Expr) (σ : St) (Q : List PyData → St → Prop) : Prop :=
  ∀ m p z s, c.Rm m p z σ s → wpAny c.M c.A (eval iter c.env) (fun xv s₁ => wpAny c.M c.A (pyIter xv) (fun it s₂ => ∃ I fp ds Sh z₁ σ₁ own, it = .ref I ∧ Grow p z z₁ ∧ c.RepW p z₁ σ₁ s₂ m own ∧ Apart p z₁ c.env own I ∧ WalkD c I fp ds Sh z₁ ∧ Sh 0 s₂.heap ∧ Q ds σ₁) NoE s₁) NoE s
theorem ESrc_list {iter : Expr} {Q : List PyData → St → Prop} (hh : c.A.handled = none) (h : EV c iter σ (fun d σ₁ => ∃ ds, d = .list ds ∧ Q ds σ₁)) : ESrc c iter σ Q := by
  intro m p z s R
  refine wpAny_mono (h m p z s R) (fun xv s₁ x => ?_) fun _ _ x => x
  obtain ⟨z₁, d, σ₁, g₁, ⟨own₁, R₁⟩, r₁, ds, rfl, q⟩ := x
  cases r₁ with
  | @list ax vs n _ e r =>
    have hlen := r.length
    have hl : s₁.heap.get? ax = some (LO vs n) := R₁.zk _ _ e
    refine wpAny_pyIter_list (items := vs.toArray) ⟨_, hl, rfl, n, rfl⟩ ?_
    have hne : ax ≠ s₁.heap.objs.size := Nat.ne_of_lt (Heap.lt_size hl)
    have R₂ := R₁.ext (h' := s₁.heap.push { cls := .type "list_iterator", data := .fields #[.ref ax, .int 0 0] }) (t := s₁.toks) fun b o e => Heap.get?_push_of_some _ e
    have hW := Walks.list (prog := c.prog) (w := c.w) hh s₁.heap.objs.size ax hne vs.toArray
    have hsz : vs.toArray.size = ds.length := by simpa using hlen
    rw [hsz] at hW
    refine ⟨s₁.heap.objs.size, [s₁.heap.objs.size, ax], ds, _, z₁, σ₁, own₁, rfl, g₁, R₂, R₁.apart' (get_size _), ⟨⟨_, hW, fun i v d hv hd => ?_⟩, fun i h st => ?_, fun b hb => ?_⟩, ⟨⟨_, Heap.get?_push_size _ rfl, rfl, rfl⟩, ⟨_, Heap.get?_push_of_some _ hl, rfl, n, rfl⟩⟩, q⟩
    · obtain ⟨u, hu, ru⟩ := r.get hd
      have hv' : vs[i]? = some v := by simpa using hv
      rw [hv'] at hu; cases hu
      exact ru
    · obtain ⟨o, e, _⟩ := st.1; exact ⟨o, e⟩
    · rcases List.mem_cons.mp hb with rfl | hb
      · exact .inl rfl
      · rw [List.mem_singleton.mp hb]; exact .inr ⟨_, e⟩
theorem ESrc_range {rn : Str} {rp cp : Pos} {e : Expr} {Q : List PyData → St → Prop} (hh : c.A.handled = none) (hb : BuiltAt c.S rn (.type "range")) (hx : IsGlob c.env rn = true)
    (h : EV c e σ (fun d σ₁ => ∃ n : Nat, d = .int n ∧ n < 100000 ∧ Q ((List.range n).map fun (i : Nat) => .int i) σ₁)) (he : starEach [e] c.env = [(false, eval e c.env)] := by rfl) : ESrc c (.Call (.Name rn rp) [e] [] cp) σ Q := by
  intro m p z s R
  refine wpAny_Call_NameR (ld_built R hx hb (callWith_type1 (spliced_more (wpAny_mono (h m p z s R) (fun xv s₁ x => ?_) fun _ _ x => x) he) he))
  obtain ⟨z₁, d, σ₁, g₁, ⟨own₁, R₁⟩, r₁, n, rfl, hn, q⟩ := x
  cases r₁ with
  | int _ t =>
    obtain ⟨ml, hml, F, N⟩ := R₁.fr
    refine spliced_none (range1_rows F N fun h' tk t₁ u₁ v₁ hr F' N' hk => ?_)
    have hsize : Builtin.Range.rangeSize 0 (n : Int) 1 = ((n : Nat) : Int) := by rw [rangeSize_nat]; omega
    refine wpAny_pyIter_range hr (small_one (by omega) (by omega) (by omega) (by omega)) ?_
    have R₂ := R₁.ext (h' := h') (t := tk) hk
    have R₃ := R₂.ext (h' := h'.push { cls := .type "range_iterator", data := .fields #[rawInt 0, rawInt (Builtin.Range.rangeSize 0 (n : Int) 1), rawInt 1] }) (t := tk) fun b o e => Heap.get?_push_of_some _ e
    have hW := LCg.range_walks (prog := c.prog) (w := c.w) (I := h'.objs.size) hh 0 n
    have hlen : ((List.range n).map fun (i : Nat) => PyData.int i).length = n := by simp
    refine ⟨h'.objs.size, [h'.objs.size], (List.range n).map fun (i : Nat) => PyData.int i, _, z₁, σ₁, own₁, rfl, g₁, R₃, R₂.apart' (get_size h'), ⟨⟨_, by rw [hlen]; exact hW, fun i v d hv hd => ?_⟩, fun i h st => ⟨_, st⟩, fun b hb => .inl (List.mem_singleton.mp hb)⟩, ?_, q⟩
    · obtain ⟨t, rfl⟩ := hv
      simp only [List.getElem?_map] at hd
      cases e : (List.range n)[i]? with
      | none => rw [e] at hd; cases hd
      | some j =>
        rw [e] at hd
        have := (List.getElem?_eq_some_iff.mp e).2
        simp only [List.getElem_range] at this
        subst this
        cases hd
        simp only [Int.zero_add]
        exact .int _ _
    · show IsRangeIter _ _ _ _ _
      rw [hsize]
      simpa using Heap.get?_push_size _ rfl

/-- the block's own place -/
abbrev Cx.inn (c : Cx) (scope : Scope) (cl : List (Str × Addr)) (C : Addr) : Cx := { c with env := compEnvC scope cl C c.env }
def TIfs (c : Cx) (ifs : List Expr) (σ : St) (Q : Bool → St → Prop) : Prop :=
  ∀ m p z s, c.Rm m p z σ s → wpAny c.M c.A (forIn ifs true fun e r => if r = true then do let ok ← isTrue e c.env (eval e c.env); pure (ForInStep.yield ok) else pure (ForInStep.yield r)) (fun b s' => ∃ z' σ', Grow p z z' ∧ c.Rm m p z' σ' s' ∧ Q b σ') NoE s
theorem TIfs_nil {Q : Bool → St → Prop} (h : Q true σ) : TIfs c [] σ Q := fun m p z s R => wpAny_tests_nil ⟨z, σ, Grow.refl, R, h⟩
theorem TIfs_one {e : Expr} {Q : Bool → St → Prop} (h : TV c e σ Q) : TIfs c [e] σ Q := fun m p z s R => wpAny_tests_one (h m p z s R)
/-- what is known behind the block: of the names that it sees as it left them, of the others as before -/
def Merge (cl : List (Str × Addr)) (σi σ σ₂ : St) : Prop := ∀ q ∈ σ₂, ((cl.lookup q.1).isSome = true ∧ σi.lookup q.1 = some q.2) ∨ (cl.lookup q.1 = none ∧ σ.lookup q.1 = some q.2)
def Seen (cl : List (Str × Addr)) (σi σ : St) : Prop := ∀ q ∈ σi, (cl.lookup q.1).isSome = true ∧ σ.lookup q.1 = some q.2

/-- one turn's look: the state between the turns -/
structure CTurn (c : Cx) (scope : Scope) (cl : List (Str × Addr)) (m : Str → Option Value) (p z₀ : PH) (I D C : Addr) (z : PH) (σ : St) (own : Str → Option Addr) (s : Shared) : Prop where
  R : c.RepW p z σ s m own
  g : Grow p z₀ z
  aI : Apart p z c.env own I
  aC : Apart p z c.env own C
  aD : Apart p z c.env own D
  hIC : I ≠ C
  hID : I ≠ D
  hCD : C ≠ D
  hN : ∃ mC, s.heap.Ns C mC

theorem CTurn.out {scope : Scope} {cl : List (Str × Addr)} {m : Str → Option Value} {p z₀ z : PH} {I D C : Addr} {own : Str → Option Addr} {s : Shared} (T : CTurn c scope cl m p z₀ I D C z σ own s) (ok : ∀ y k, cl.lookup y = some k → c.env.cells.lookup y = some k) {a : Addr} (h : a = I ∨ a = D) : pIn s C cl own a = s.heap.get? a := by
  rcases h with rfl | rfl
  · exact pIn_out T.hIC (fun y k e => T.aI.c_ y k (ok _ _ e)) fun y k e q => T.aI.o_ y _ q rfl
  · exact pIn_out (Ne.symm T.hCD) (fun y k e => T.aD.c_ y k (ok _ _ e)) fun y k e q => T.aD.o_ y _ q rfl

/-- behind a tree that was run in the block -/
theorem CTurn.back {scope : Scope} {cl : List (Str × Addr)} {x : Str} {m mi : Str → Option Value} {p z₀ z z' : PH} {I D C : Addr} {own own' : Str → Option Addr} {s s' : Shared} {σ' σ₂ : St} (T : CTurn c scope cl m p z₀ I D C z σ own s) (ok : BlockOk scope cl c.env x)
    (R' : (c.inn scope cl C).RepW (pIn s C cl own) z' σ' s' mi own') (hmi : ∀ y, (compEnvC scope cl C c.env).kindOf y ≠ some .local → mi y = m y) (g : Grow (pIn s C cl own) z z') (hσ : Merge cl σ' σ σ₂) (hI : ∃ o, s.heap.get? I = some o) (hD : ∃ o, s.heap.get? D = some o) :
    CTurn c scope cl m p z₀ I D C z' σ₂ (fun y => if (cl.lookup y).isSome then own' y else own y) s' ∧ s'.heap.get? I = s.heap.get? I ∧ s'.heap.get? D = s.heap.get? D := by
  obtain ⟨R₂, g₂⟩ := comp_leave T.R ok T.aC R' hmi g hσ
  obtain ⟨oI, eI⟩ := hI
  obtain ⟨oD, eD⟩ := hD
  have pI : pIn s C cl own I = some oI := (T.out ok.sub (.inl rfl)).trans eI
  have pD : pIn s C cl own D = some oD := (T.out ok.sub (.inr rfl)).trans eD
  have znone : ∀ a, z a = none → (∃ o, pIn s C cl own a = some o) → z' a = none := fun a h ⟨o, e⟩ => by
    cases q : z' a with
    | none => rfl
    | some x =>
      rcases g.2 a x q with q' | q'
      · rw [h] at q'; cases q'
      · rw [e] at q'; cases q'
  have onone : ∀ a o, pIn s C cl own a = some o → (∀ x b, own x = some b → a ≠ b) → ∀ x b, (if (cl.lookup x).isSome = true then own' x else own x) = some b → a ≠ b := fun a o e h x b hb q => by
    subst q
    cases hc : cl.lookup x with
    | none => simp only [hc, Option.isSome_none, Bool.false_eq_true, if_false] at hb; exact h x _ hb rfl
    | some k =>
      simp only [hc, Option.isSome_some, if_true] at hb
      have := (R'.op x _ hb).1
      rw [e] at this; cases this
  refine ⟨⟨R₂, T.g.trans g₂, ⟨T.aI.p_, znone _ T.aI.z_ ⟨_, pI⟩, T.aI.l_, T.aI.c_, onone _ _ pI T.aI.o_⟩, ⟨T.aC.p_, R'.lp.2, T.aC.l_, T.aC.c_, fun x b hb q => ?_⟩, ⟨T.aD.p_, znone _ T.aD.z_ ⟨_, pD⟩, T.aD.l_, T.aD.c_, onone _ _ pD T.aD.o_⟩, T.hIC, T.hID, T.hCD, ?_⟩, ?_, ?_⟩
  · subst q
    cases hc : cl.lookup x with
    | none => simp only [hc, Option.isSome_none, Bool.false_eq_true, if_false] at hb; exact T.aC.o_ x _ hb rfl
    | some k =>
      simp only [hc, Option.isSome_some, if_true] at hb
      exact (R'.op x _ hb).2.2.1 rfl
  · obtain ⟨ml, a, _⟩ := R'.loc; exact ⟨ml, a⟩
  · rw [eI]; exact R'.pk _ _ pI
  · rw [eD]; exact R'.pk _ _ pD

/-- an object beside is turned -/
theorem CTurn.but {scope : Scope} {cl : List (Str × Addr)} {m : Str → Option Value} {p z₀ z : PH} {I D C a : Addr} {own : Str → Option Addr} {s : Shared} {h' : Heap} {t : Nat} (T : CTurn c scope cl m p z₀ I D C z σ own s) (ha : Apart p z c.env own a) (k : ∀ b o, b ≠ a → s.heap.get? b = some o → h'.get? b = some o) (hN : ∃ mC, h'.Ns C mC) :
    CTurn c scope cl m p z₀ I D C z σ own { s with heap := h', toks := t } :=
  { T with R := T.R.but ha.all k, hN := hN }

theorem comp_loop {elt iter : Expr} {x : Str} {xp : Pos} {ifs : List Expr} {scope : Scope} {cl : List (Str × Addr)} {pos : Pos} {m : Str → Option Value} {p z₀ z : PH} {I D C : Addr} {fp : List Addr} {ds : List PyData} {Sh : Nat → Heap → Prop} {own : Str → Option Addr} {s : Shared} {k₀ : Nat} {RR : Result → Shared → Prop}
    (ok : BlockOk scope cl c.env x) (W : WalkD c I fp ds Sh z) (T : CTurn c scope cl m p z₀ I D C z σ own s) (hst : Sh 0 s.heap) (hD : s.heap.get? D = some (LO [] k₀)) (hlen : ds.length ≤ 100000)
    (Inv : List PyData → List PyData → St → Prop) (hi : Inv ds [] σ)
    (turn : ∀ C d rest acc σ, Inv (d :: rest) acc σ → ∃ σi, Seen cl σi σ ∧ TIfs (c.inn scope cl C) ifs ((x, .val d) :: σi) (fun b σ' => if b then EV (c.inn scope cl C) elt σ' (fun r σ'' => ∃ σ₂, Merge cl σ'' σ σ₂ ∧ Inv rest (acc ++ [r]) σ₂) else ∃ σ₂, Merge cl σ' σ σ₂ ∧ Inv rest acc σ₂))
    (hRR : ∀ z' σ' own' s' ys k acc, CTurn c scope cl m p z₀ I D C z' σ' own' s' → s'.heap.get? D = some (LO ys k) → RdAll z' ys acc → Inv [] acc σ' → RR (.ok .next) s') :
    codeAny c.M c.A (.compLoop (.ListComp elt [⟨.Name x xp, iter, ifs, 0⟩] scope pos) 0 (.ref I) (.ref D) (compEnvC scope cl C c.env)) RR s := by
  obtain ⟨⟨P, W', hP⟩, hio, hstay⟩ := W
  refine codeAny_compLoop_tests
    (fun n s' => ∃ i z' σ' own' ys k acc, i ≤ ds.length ∧ n = ds.length + 1 - i ∧ Sh i s'.heap ∧ CTurn c scope cl m p z₀ I D C z' σ' own' s' ∧ Grow p z z' ∧ s'.heap.get? D = some (LO ys k) ∧ RdAll z' ys acc ∧ acc.length ≤ i ∧ Inv (ds.drop i) acc σ') ?_ (ds.length + 1)
    ⟨0, z, σ, own, [], k₀, [], Nat.zero_le _, rfl, hst, T, Grow.refl, hD, .nil, Nat.le_refl _, by simpa using hi⟩
  rintro n s' ⟨i, z', σ', own', ys, k, acc, hle, rfl, hst', T', g', hD', hacc, hal, inv⟩
  by_cases hlt : i < ds.length
  · refine W'.item i s' _ _ hlt hst' fun v h₁ t₁ hPv hst₁ hk₁ => ?_
    have hd : ds[i]? = some ds[i] := List.getElem?_eq_getElem hlt
    have rv : Rd z v ds[i] := hP i v _ hPv hd
    have kb : ∀ b o, b ≠ I → s'.heap.get? b = some o → h₁.get? b = some o := fun b o n e => hk₁ b o (by simpa using n) e
    obtain ⟨mC, oC, esC, epC, hC1, hC2⟩ := T'.hN
    have T₁ := T'.but (t := t₁) T'.aI kb ⟨mC, oC, esC, epC, kb _ _ (Ne.symm T'.hIC) hC1, hC2⟩
    have hD₁ : h₁.get? D = some (LO ys k) := kb _ _ (Ne.symm T'.hID) hD'
    obtain ⟨oI, hoI⟩ := hio _ _ hst₁
    -- the target
    have hN₁ : h₁.Ns C mC := ⟨oC, esC, epC, kb _ _ (Ne.symm T'.hIC) hC1, hC2⟩
    refine wpAny_assign_Name (wpAny_storeName_local (ok.xl C) hN₁ (fun h₂ hn₂ hs₂ => ?_) (by simp [compEnvC, relabel, ok.kind]))
    have kc : ∀ b o, b ≠ C → h₁.get? b = some o → h₂.get? b = some o := fun b o n e => (hs₂.2 b n).trans e
    have T₂ := T₁.but (t := t₁ + 1) T₁.aC kc ⟨_, hn₂⟩
    have hD₂ : h₂.get? D = some (LO ys k) := kc _ _ (Ne.symm T'.hCD) hD₁
    have hI₂ : h₂.get? I = some oI := kc _ _ T'.hIC hoI
    have hdrop : ds.drop i = ds[i] :: ds.drop (i + 1) := (List.drop_eq_getElem_cons hlt)
    rw [hdrop] at inv
    obtain ⟨σi, hs, tt⟩ := turn C _ _ _ _ inv
    have RI := comp_enter (x := x) (v := v) (d := ds[i]) (σi := σi) T₂.R ok T₂.aC hn₂ (by simp) (rv.mono g'.1) hs
    have next : ∀ {z₃ σ₃ s₃ acc'}, CTurn c scope cl m p z₀ I D C z₃ σ₃ acc' s₃ → Grow p z' z₃ → s₃.heap.get? I = some oI → Sh (i + 1) s₃.heap := fun {z₃ σ₃ s₃ acc'} T₃ g₃ hI₃ => by
      refine W'.frame _ _ _ hst₁ fun b hb o e => ?_
      rcases hstay b hb with rfl | ⟨o', e'⟩
      · have e2 : h₁.get? b = some o := e
        rw [hoI] at e2; cases e2
        exact hI₃
      · have h1 := T₁.R.zk _ _ (g'.1 _ _ e')
        have h2 : h₁.get? b = some o' := h1
        rw [h2] at e; cases e
        exact T₃.R.zk _ _ (g₃.1 _ _ (g'.1 _ _ e'))
    have gless : ∀ {z₃ : PH}, Grow (pIn { s' with heap := h₂, toks := t₁ + 1 } C cl own') z' z₃ → Grow p z' z₃ := fun {z₃} g => by
      refine ⟨g.1, fun a o e => (g.2 a o e).imp id fun q => ?_⟩
      rcases pIn_none q with q | rfl | ⟨y, k, e, rfl⟩ | ⟨y, k, e, q⟩
      · cases e : p a with
        | none => rfl
        | some o => have := T₂.R.pk _ _ e; rw [q] at this; cases this
      · exact T₂.aC.p_
      · exact (T₂.R.cp y _ (ok.sub _ _ e)).1
      · exact (T₂.R.op y a q).1
    refine noE (wpAny_mono (tt _ _ _ _ ⟨_, RI⟩) (fun b s₃ q => ?_) fun _ _ x => x)
    obtain ⟨z₃, σ₃, g₃, ⟨own₃, R₃⟩, q⟩ := q
    cases b with
    | false =>
      obtain ⟨σ₂, hm, inv'⟩ := q
      obtain ⟨T₃, eI, eD⟩ := T₂.back ok R₃ (fun y hy => by simp only [hy, if_false]) g₃ hm ⟨_, hI₂⟩ ⟨_, hD₂⟩
      exact ⟨ds.length + 1 - (i + 1), by omega, i + 1, z₃, σ₂, _, ys, k, acc, hlt, rfl, next T₃ (gless g₃) (eI.trans hI₂), T₃, g'.trans (gless g₃), eD.trans hD₂, hacc.mono g₃.1, by omega, inv'⟩
    | true =>
      refine noE (wpAny_mono (q _ _ _ _ ⟨own₃, R₃⟩) (fun u s₄ q => ?_) fun _ _ x => x)
      obtain ⟨z₄, r, σ₄, g₄, ⟨own₄, R₄⟩, r₄, σ₂, hm, inv'⟩ := q
      have g₅ := g₃.trans g₄
      obtain ⟨T₄, eI, eD⟩ := T₂.back ok R₄ (fun y hy => by simp only [hy, if_false]) g₅ hm ⟨_, hI₂⟩ ⟨_, hD₂⟩
      have hl := hacc.length
      refine append_at (hsz := line_of (by rw [List.size_toArray, hl]; omega)) (eD.trans hD₂) fun h₅ hs₅ hD₅ => ?_
      have kd : ∀ b o, b ≠ D → s₄.heap.get? b = some o → h₅.get? b = some o := fun b o n e => (hs₅.2 b n).trans e
      obtain ⟨mC₄, oC₄, es₄, ep₄, c1, c2⟩ := T₄.hN
      have T₅ := T₄.but (t := s₄.toks) T₄.aD kd ⟨mC₄, oC₄, es₄, ep₄, kd _ _ T₄.hCD c1, c2⟩
      refine ⟨ds.length + 1 - (i + 1), by omega, i + 1, z₄, σ₂, _, ys ++ [u], k + 1, acc ++ [r], hlt, rfl, next T₅ (gless g₅) (kd _ _ T₄.hID (eI.trans hI₂)), T₅, g'.trans (gless g₅), ?_, (hacc.mono g₅.1).append (.cons r₄ .nil), by simp; omega, inv'⟩
      rw [hD₅]; simp
  · have hi' : i = ds.length := Nat.le_antisymm hle (Nat.not_lt.mp hlt)
    subst hi'
    refine W'.done s' _ _ hst' fun h₁ t₁ hk₁ => ?_
    have kb : ∀ b o, b ≠ I → s'.heap.get? b = some o → h₁.get? b = some o := fun b o n e => hk₁ b o (by simpa using n) e
    obtain ⟨mC, oC, esC, epC, hC1, hC2⟩ := T'.hN
    have T₁ := T'.but (t := t₁) T'.aI kb ⟨mC, oC, esC, epC, kb _ _ (Ne.symm T'.hIC) hC1, hC2⟩
    rw [List.drop_length] at inv
    exact hRR _ _ _ _ _ _ _ T₁ (kb _ _ (Ne.symm T'.hID) hD') hacc inv

theorem comp_block {elt iter : Expr} {x : Str} {xp : Pos} {ifs : List Expr} {scope : Scope} {cl : List (Str × Addr)} {pos : Pos} {m : Str → Option Value} {p z : PH} {s : Shared} {RR : Value → Addr → Result → Shared → Prop}
    (ok : BlockOk scope cl c.env x) (R : c.Rm m p z σ s) (Inv : List PyData → List PyData → St → Prop)
    (h : ESrc c iter σ (fun ds σ₁ => ds.length ≤ 100000 ∧ Inv ds [] σ₁))
    (turn : ∀ C d rest acc σ, Inv (d :: rest) acc σ → ∃ σi, Seen cl σi σ ∧ TIfs (c.inn scope cl C) ifs ((x, .val d) :: σi) (fun b σ' => if b then EV (c.inn scope cl C) elt σ' (fun r σ'' => ∃ σ₂, Merge cl σ'' σ σ₂ ∧ Inv rest (acc ++ [r]) σ₂) else ∃ σ₂, Merge cl σ' σ σ₂ ∧ Inv rest acc σ₂))
    (hRR : ∀ I D C z' σ' own' s' ys k acc, CTurn c scope cl m p z I D C z' σ' own' s' → s'.heap.get? D = some (LO ys k) → RdAll z' ys acc → Inv [] acc σ' → RR (.ref D) C (.ok .next) s') :
    wpAny c.M c.A (eval iter c.env) (fun xv s₁ => wpAny c.M c.A (pyIter xv) (fun it s₂ => wpAny c.M c.A (newList []) (fun acc s₃ =>
      wpAny c.M c.A (newFunctionEnv scope c.env.globals cl [] c.env.qual none .none (some c.env)) (fun cenv s₄ =>
        codeAny c.M c.A (.compStart (.ListComp elt [⟨.Name x xp, iter, ifs, 0⟩] scope pos) 0 it acc { cenv with scope := relabel scope c.env }) (RR acc cenv.locals) s₄) NoE s₃) NoE s₂) NoE s₁) NoE s := by
  refine wpAny_mono (h m p z s R) (fun xv s₁ y => wpAny_mono y (fun it s₂ y => ?_) fun _ _ x => x) fun _ _ x => x
  obtain ⟨I, fp, ds, Sh, z₁, σ₁, own₁, rfl, g₁, R₁, aI, W, hst, hlen, inv⟩ := y
  obtain ⟨⟨P, W', hP⟩, hio, hstay⟩ := id W
  obtain ⟨oI, hoI⟩ := hio _ _ hst
  refine wpAny_newList (wpAny_newFunctionEnv ok.nocell (by intro y hy; simp at hy) (fun h₁ hns₁ hsb₁ => ?_) ok.kind)
  dsimp only at hns₁ hsb₁ ⊢
  have hCs : (s₂.heap.push { cls := .type "list", data := .seq ([] : List Value).toArray }).objs.size = s₂.heap.objs.size + 1 := by rw [Heap.size_push]
  rw [hCs] at hns₁ hsb₁
  simp only [hCs]
  have old : ∀ b o, s₂.heap.get? b = some o → h₁.get? b = some o := fun b o e => hsb₁.extBut b o (Nat.ne_of_lt (Nat.lt_succ_of_lt (Heap.lt_size e))) (Heap.get?_push_of_some _ (Heap.get?_push_of_some _ e))
  have hD : h₁.get? s₂.heap.objs.size = some (LO [] 0) := hsb₁.extBut _ _ (Nat.ne_of_lt (Nat.lt_succ_self _)) (Heap.get?_push_of_some _ (Heap.get?_push_size _ rfl))
  have aD : Apart p z₁ c.env own₁ s₂.heap.objs.size := R₁.apart' (get_size _)
  have aC : Apart p z₁ c.env own₁ (s₂.heap.objs.size + 1) := R₁.apart' (Heap.get?_none_of_le (Nat.le_succ _))
  have hT : ∀ t, CTurn c scope cl m p z I s₂.heap.objs.size (s₂.heap.objs.size + 1) z₁ σ₁ own₁ { s₂ with heap := h₁, toks := t } := fun t => ⟨R₁.ext old, g₁, aI, aC, aD, Nat.ne_of_lt (Nat.lt_succ_of_lt (Heap.lt_size hoI)), Nat.ne_of_lt (Heap.lt_size hoI), Nat.ne_of_gt (Nat.lt_succ_self _), ⟨_, hns₁⟩⟩
  have hst₁ : Sh 0 h₁ := W'.frame _ _ _ hst fun b _ o e => old b o e
  have loop : ∀ t, codeAny c.M c.A (.compLoop (.ListComp elt [⟨.Name x xp, iter, ifs, 0⟩] scope pos) 0 (.ref I) (.ref s₂.heap.objs.size) (compEnvC scope cl (s₂.heap.objs.size + 1) c.env)) (RR (.ref s₂.heap.objs.size) (s₂.heap.objs.size + 1)) { s₂ with heap := h₁, toks := t } := fun t =>
    comp_loop ok W (hT t) hst₁ hD hlen Inv inv turn fun z' σ' own' s' ys k acc T e r i => hRR _ _ _ _ _ _ _ _ _ _ T e r i
  exact codeAny_compStart_list (loop _) (W'.self 0 _ _ _ hst₁ (loop _))

theorem EF_listcomp {elt iter : Expr} {x : Str} {xp : Pos} {ifs : List Expr} {scope : Scope} {cl : List (Str × Addr)} {pos : Pos} {Q : Slot → St → Prop}
    (ok : BlockOk scope cl c.env x) (Inv : List PyData → List PyData → St → Prop)
    (h : ESrc c iter σ (fun ds σ₁ => ds.length ≤ 100000 ∧ Inv ds [] σ₁))
    (turn : ∀ C d rest acc σ, Inv (d :: rest) acc σ → ∃ σi, Seen cl σi σ ∧ TIfs (c.inn scope cl C) ifs ((x, .val d) :: σi) (fun b σ' => if b then EV (c.inn scope cl C) elt σ' (fun r σ'' => ∃ σ₂, Merge cl σ'' σ σ₂ ∧ Inv rest (acc ++ [r]) σ₂) else ∃ σ₂, Merge cl σ' σ σ₂ ∧ Inv rest acc σ₂))
    (done : ∀ acc σ', Inv [] acc σ' → Q (.lst acc) σ')
    (hs : ∀ x, foldedSetIterable iter c.env x = pure x := by intro _; rfl) : EF c (.ListComp elt [⟨.Name x xp, iter, ifs, 0⟩] scope pos) σ Q := by
  intro m p z s R
  rw [eval_ListComp]
  refine wpAny_comprehension_free (use := none) rfl hs ok.clos ok.kind ok.names (comp_block ok R Inv h turn fun I D C z' σ' own' s' ys k acc T e r i => ?_)
  obtain ⟨mC, hn⟩ := T.hN
  refine ⟨mC, hn, fun h' hs' => ?_⟩
  have kc : ∀ b o, b ≠ C → s'.heap.get? b = some o → h'.get? b = some o := fun b o n e => (hs'.2 b n).trans e
  have R₂ : c.RepW p z' σ' { s' with heap := h', toks := s'.toks } m own' := T.R.but T.aC.all kc
  refine ⟨z', .lst acc, σ', T.g, ?_, done acc σ' i⟩
  refine ⟨_, _, R₂.own (sl := .lst acc) T.aD.all (fun _ q => by cases q) ⟨ys, k, kc _ _ (Ne.symm T.hCD) e, r⟩, by simp, ⟨D, by simp⟩, fun y hy => by simp [hy]⟩

theorem X_listcomp {elt iter : Expr} {x y : Str} {xp yp : Pos} {ifs : List Expr} {scope : Scope} {cl : List (Str × Addr)} {pos spos : Pos} {Q : Out → St → Prop}
    (ok : BlockOk scope cl c.env x) (hsw : swapsWith (.ListComp elt [⟨.Name x xp, iter, ifs, 0⟩] scope pos) (some (.Name y yp)) spos.line c.env = pure true) (hy : IsVar c.env y = true) (Inv : List PyData → List PyData → St → Prop)
    (h : ESrc c iter σ (fun ds σ₁ => ds.length ≤ 100000 ∧ Inv ds [] σ₁))
    (turn : ∀ C d rest acc σ, Inv (d :: rest) acc σ → ∃ σi, Seen cl σi σ ∧ TIfs (c.inn scope cl C) ifs ((x, .val d) :: σi) (fun b σ' => if b then EV (c.inn scope cl C) elt σ' (fun r σ'' => ∃ σ₂, Merge cl σ'' σ σ₂ ∧ Inv rest (acc ++ [r]) σ₂) else ∃ σ₂, Merge cl σ' σ σ₂ ∧ Inv rest acc σ₂))
    (done : ∀ acc σ', Inv [] acc σ' → Q .next ((y, .lst acc) :: σ'))
    (hs : ∀ x, foldedSetIterable iter c.env x = pure x := by intro _; rfl) : X1 c (.Assign [.Name y yp] (.ListComp elt [⟨.Name x xp, iter, ifs, 0⟩] scope pos) spos) σ Q := by
  intro p z s R
  obtain ⟨m, R⟩ := R
  rw [exec_Assign_Name_used _ _ _ _ hsw]
  refine wpAny_bind (wpAny_standAt (wpAny_bind ?_))
  show wpAny _ c.A (do let _ ← comprehension (.ListComp elt [⟨.Name x xp, iter, ifs, 0⟩] scope pos) scope c.env _ (newList []) false (eval iter c.env) (some (assign (.Name y yp) c.env))) _ _ s
  refine wpAny_bind (wpAny_mono (wpAny_comprehension_free (use := some (assign (.Name y yp) c.env)) (Q := fun _ s' => ∃ z' o σ', Grow p z z' ∧ c.Rep p z' σ' s' ∧ FlowRd p z' .next o ∧ Q o σ') rfl hs ok.clos ok.kind ok.names (comp_block ok R Inv h turn fun I D C z' σ' own' s' ys k acc T e r i => ?_)) (fun _ s' hq => wpAny_pure (wpAny_pure hq)) fun _ _ e => e)
  show wpAny _ c.A (assign (.Name y yp) c.env (.ref D)) _ _ _
  obtain ⟨mC, oC, esC, epC, hC1, hC2⟩ := T.hN
  have RP := T.R.padd T.aC.all hC1
  have pl : Le p (addAt p C oC) := Le.addAt T.aC.p_
  refine wpAny_assign_Name (store_any RP hy (ow := some D) (sl := .lst acc) ⟨D, rfl, rfl, ys, k, e, r⟩ (fun a q => ?_) fun s'' m' own'' R'' _ => ?_)
  · cases q
    exact ⟨by rw [addAt_ne (Ne.symm T.hCD)]; exact T.aD.p_, T.aD.z_, T.aD.l_, T.aD.c_, fun w _ q => T.aD.o_ w _ q rfl, _, e⟩
  · have hC'' : s''.heap.get? C = some oC := R''.pk _ _ (addAt_self _ _ _)
    refine ⟨mC, ⟨oC, esC, epC, hC'', hC2⟩, fun h' hs' => ?_⟩
    have aw := R''.away (addAt_self p C oC)
    have R3 : c.RepW p z' ((y, .lst acc) :: σ') { s'' with heap := h', toks := s''.toks } m' own'' := (R''.psub pl T.R.gp).but ⟨T.aC.p_, T.aC.z_, aw⟩ fun b o n e => (hs'.2 b n).trans e
    exact ⟨z', .next, _, T.g, ⟨m', own'', R3⟩, trivial, done acc σ' i⟩
end
end

/-! # part J -/
section

section
variable {prog : Program} {w : World} {S : Shared} {p z : PH} {env : Env} {σ : St} {s : Shared} {m : Str → Option Value} {own : Str → Option Addr}
/-- an owned object is turned, the heap may grow -/
theorem RepW.updOwn' {x : Str} {a : Addr} {sl : Slot} {h' : Heap} {t : Nat} (R : RepW prog w S p z env σ s m own) (hx : own x = some a) (hm : m x = some (.ref a)) (kp : ∀ b o, b ≠ a → s.heap.get? b = some o → h'.get? b = some o) (hv : ∀ d, sl ≠ .val d) (ho : OwnAt prog w z h' a sl) :
    RepW prog w S p z env ((x, sl) :: σ) { s with heap := h', toks := t } m own := by
  obtain ⟨b1, b2, b3, b4, o, b5⟩ := R.op x a hx
  refine { R with same := ?_, pk := ?_, zk := ?_, loc := ?_, cel := ?_, op := ?_, slots := ?_ }
  · obtain ⟨h, t', e⟩ := R.same; exact ⟨h', t, by rw [e]⟩
  · exact fun b o e => kp b o (fun q => by rw [q, b1] at e; cases e) (R.pk b o e)
  · exact fun b o e => kp b o (fun q => by rw [q, b2] at e; cases e) (R.zk b o e)
  · obtain ⟨ml, ⟨oL, es, ep, q, r⟩, k⟩ := R.loc; exact ⟨ml, ⟨oL, es, ep, kp _ _ (Ne.symm b3) q, r⟩, k⟩
  · intro y k e; obtain ⟨o, q, r⟩ := R.cel y k e; exact ⟨o, kp _ _ (Ne.symm (b4 y k e)) q, r⟩
  · intro y b e
    obtain ⟨c1, c2, c3, c4, o', c5⟩ := R.op y b e
    refine ⟨c1, c2, c3, c4, ?_⟩
    by_cases q : b = a
    · rw [q]; exact own_get ho
    · exact ⟨o', kp b o' q c5⟩
  · intro y sl' e
    by_cases q : y = x
    · subst q
      rw [List.lookup_cons] at e
      simp only [beq_self_eq_true] at e
      cases e
      cases sl with
      | val d => exact absurd rfl (hv d)
      | lst ds => exact ⟨a, hx, hm, ho⟩
      | dct ds => exact ⟨a, hx, hm, ho⟩
    · rw [List.lookup_cons, beq_eq_false_iff_ne.mpr q] at e
      exact (R.slots y sl' e).keep (Le.refl _) fun b hb o e => kp b o (fun q' => q (R.oo y x a (q' ▸ hb) hx)) e
end

section
variable {c : Cx} {σ : St}
/-! ### lists joined, texts cut -/
theorem EF_concat {l r : Expr} {pos : Pos} {Q : Slot → St → Prop} (h : EV c l σ (fun a σ₁ => ∃ ds, a = .list ds ∧ EV c r σ₁ (fun b σ₂ => ∃ es, b = .list es ∧ ds.length + es.length ≤ 100000 ∧ Q (.lst (ds ++ es)) σ₂))) : EF c (.BinOp l .Add r pos) σ Q := by
  intro m p z s R
  refine wpAny_BinOp (wpAny_mono (h m p z s R) (fun va s₁ x => ?_) fun _ _ x => x)
  obtain ⟨z₁, a, σ₁, g₁, R₁, ra, ds, rfl, h₁⟩ := x
  refine wpAny_mono (h₁ m p z₁ s₁ R₁) (fun vb s₂ x => ?_) fun _ _ x => x
  obtain ⟨z₂, b, σ₂, g₂, ⟨own, R₂⟩, rb, es, rfl, hl, q⟩ := x
  cases ra.mono g₂.1 with
  | @list a vs n _ e1 e2 =>
    cases rb with
    | @list b us k _ f1 f2 =>
      have l1 := e2.length
      have l2 := f2.length
      refine P.add_list (R₂.zk _ _ e1) (R₂.zk _ _ f1) ⟨z₂, _, σ₂, g₁.trans g₂, ?_, q⟩ (line_of (by simp; omega))
      exact ef_new (h' := s₂.heap.push { cls := .type "list", data := .seq (vs.toArray ++ us.toArray) }) (t := s₂.toks) (sl := .lst (ds ++ es)) ⟨own, R₂⟩ (fun b o e => Heap.get?_push_of_some _ e) (get_size _) (fun d q => by cases q) ⟨vs ++ us, 0, by have := Heap.get?_push_size (o := ({ cls := .type "list", data := .seq (vs.toArray ++ us.toArray) } : Obj)) s₂.heap rfl; simpa using this, e2.append f2⟩
theorem EV_cut {e : Expr} {k : Int} {ck : Nat} {cp sp pos : Pos} {Q : PyData → St → Prop} (h : EV c e σ (fun d σ' => ∃ x, d = .str x ∧ x.length ≤ 100000 ∧ Q (.str (Txt.slice x none (some k))) σ'))
    (hs : ∀ (x : Str) (t : Tok) (a : Addr), subscripted (.Slice none (some (.Constant (.int k) ck cp)) none sp) false (.str x t) (.ref a) = operate [.ref a, .str x t] (getItem (.str x t) (.ref a)) := by intro _ _ _; with_unfolding_all rfl)
    (ht : ∀ (x : Str) (t : Tok) r, letTemporaryGo e (.str x t) r = pure () := by intro _ _ _; with_unfolding_all rfl) : EV c (.Subscript e (.Slice none (some (.Constant (.int k) ck cp)) none sp) pos) σ Q := by
  intro m p z s R
  refine Subscript_ (wpAny_mono (h m p z s R) (fun v s₁ x => ?_) fun _ _ x => x)
  obtain ⟨z₁, d, σ₁, g₁, R₁, r₁, x, rfl, hl, q⟩ := x
  cases r₁ with
  | str _ t =>
    refine wpAny_Slice ?_
    rw [evalPart_none]
    refine wpAny_pure (evalPart_some_step (wpAny_Constant_int ?_))
    refine wpAny_pure ?_
    have R₂ : c.Rm m p z₁ σ₁ { s₁ with toks := s₁.toks + 1 } := Rm.tok R₁
    obtain ⟨own, R₂⟩ := R₂
    obtain ⟨ml, hml, F, N⟩ := R₂.fr
    refine slice_strN_ns (s := { s₁ with toks := s₁.toks + 1 }) F N (fun h' t' k' F' N' => ⟨z₁, _, σ₁, g₁, ⟨own, R₂.viaNews (t := k') hml F' N' fun _ h => h⟩, .str _ _, q⟩) (hs _ _ _) (ht _ _) (line_of hl)
/-- an owned list against the empty display -/
theorem CmpJ_ne_nil {x : Str} {np lp : Pos} {ns : List Int} {Q : Bool → St → Prop} (hσ : σ.lookup x = some (.lst (ns.map .int))) (hx : IsVar c.env x = true) (hu : c.A.units + 64 < cLine) (h : Q (!decide (ns = [])) σ) : CmpJ c (.Name x np) (.List [] lp) .NotEq σ Q := by
  intro m p z s R
  obtain ⟨own, R⟩ := R
  obtain ⟨a, vs, n, a1, a2, a3, a4⟩ := own_list R hσ
  refine ld_var R hx a2 (wpAny_List_spliced (spliced_none ⟨by simp, ?_⟩))
  have R₁ := R.ext (h' := s.heap.push { cls := .type "list", data := .seq ([] : List Value).toArray }) (t := s.toks) fun b o e => Heap.get?_push_of_some _ e
  refine ke_ne_ints (xs := vs) (ys := []) (ns := ns) (ms := []) ⟨_, Heap.get?_push_of_some _ a3, rfl, n, rfl⟩ ⟨_, Heap.get?_push_size _ rfl, rfl, _, rfl⟩ a4.ints .nil hu ?_
  exact ⟨_, z, σ, rfl, Grow.refl, ⟨own, R₁⟩, h⟩

/-! ### two names at once -/
theorem X_swapped {x y : Str} {xp yp tp vp pos : Pos} {k vk : Nat} {e f : Expr} {Q : Out → St → Prop} (hh : c.A.handled = none) (hx : IsVar c.env x = true) (hy : IsVar c.env y = true)
    (h : EVs c [e, f] σ (fun ds σ' => ∃ a b, ds = [a, b] ∧ Q .next ((x, .val a) :: (y, .val b) :: σ')))
    (hs : swapsWithSole [.Tuple [.Name x xp, .Name y yp] k tp] (.Tuple [e, f] vk vp) pos.line c.env = pure false := by rfl)
    (hw : swappedStores [.Tuple [.Name x xp, .Name y yp] k tp] (.Tuple [e, f] vk vp) c.env = pure (some [x, y]) := by rfl) : X1 c (.Assign [.Tuple [.Name x xp, .Name y yp] k tp] (.Tuple [e, f] vk vp) pos) σ Q := by
  intro p z s R
  obtain ⟨m, R⟩ := R
  rw [exec_Assign]
  refine wpAny_bind (wpAny_standAt ?_)
  rw [hs]
  refine wpAny_bind (wpAny_pure ?_)
  rw [if_neg (by decide)]
  refine wpAny_bind (wpAny_Tuple_spliced (wpAny_mono (h vp m p z s R) (fun vs s₁ q => ?_) fun _ _ x => x))
  obtain ⟨z₁, ds, σ₁, g₁, ⟨own, R₁⟩, r₁, a, b, rfl, q⟩ := q
  match vs, r₁ with
  | [va, vb], .cons ra (.cons rb .nil) =>
    refine ⟨line_of (by simp), ?_⟩
    rw [hw]
    refine wpAny_bind (wpAny_pure ?_)
    obtain ⟨R₂, g₂, _⟩ := R₁.push (o := TO [va, vb] 0) (t := s₁.toks) rfl
    show wpAny c.M c.A (do rule "assign.swapped-stores"; let items ← unpackItems (.ref s₁.heap.objs.size) 2 none; assignInOrder (([x, y] : List Str).reverse.map fun n => bindName c.env n) items.reverse; pure Flow.next) _ NoE _
    refine wpAny_bind (wpAny_rule (wpAny_bind (wpAny_unpackItems_tuple (items := #[va, vb]) hh ⟨_, Heap.get?_push_size _ rfl, rfl, _, rfl⟩ fun h' hk => ?_)))
    have R₃ := R₂.ext (h' := h') (t := s₁.toks) fun b o e => hk b o (Nat.ne_of_lt (Heap.lt_size e)) e
    refine wpAny_bind (wpAny_assignInOrder_more (wpAny_bindName (store_any R₃ hy (ow := none) (sl := .val b) ⟨_, rfl, rb.mono g₂.1⟩ (fun a e => by cases e) fun s₄ m₄ own₄ R₄ _ => ?_)))
    refine wpAny_assignInOrder_more (wpAny_bindName (store_any R₄ hx (ow := none) (sl := .val a) ⟨_, rfl, ra.mono g₂.1⟩ (fun a e => by cases e) fun s₅ m₅ own₅ R₅ _ => ?_))
    exact wpAny_assignInOrder_none (wpAny_pure ⟨_, .next, _, g₁.trans g₂, R₅.rep, trivial, q⟩)

/-! ### a def that turns its first argument -/
def FnMut (prog : Program) (w : World) (S : Shared) (f : Addr) (n : Nat) (ns : List Int) (args : List PyData) (post : PyData → List Int → Prop) : Prop :=
  ∀ (A : Around), A.handled = none → A.depth + n < 900 → A.units + 8 * n < 9000 → ∀ (z : PH) (s : Shared) (a : Addr) (us vs : List Value) (k : Nat), (∃ h t, s = { S with heap := h, toks := t }) → Le S.heap.get? s.heap.get? → Le z s.heap.get? →
    s.heap.get? a = some (LO us k) → IntsAre us ns → z a = none → S.heap.get? a = none → RdAll z vs args →
    codeAny (model prog w) A (.call (.ref f) ⟨.ref a :: vs, []⟩) (fun res s' => ∃ v h' t' z' d us' k' ns', res = .ok (.ret v) ∧ s' = { s with heap := h', toks := t' } ∧ (∀ b o, b ≠ a → s.heap.get? b = some o → h'.get? b = some o) ∧ h'.get? a = some (LO us' k') ∧ IntsAre us' ns' ∧ Le z z' ∧ Le z' h'.get? ∧
      (∀ b o, z' b = some o → z b = some o ∨ s.heap.get? b = none) ∧ Rd z' v d ∧ post d ns') s
theorem EV_callmut {x y : Str} {np yp pos : Pos} {f : Addr} {fd : FuncData} {es : List Expr} {n : Nat} {ns₀ : List Int} {Q : PyData → St → Prop} (g : GlobAt c.S x (.ref f)) (fa : FnAt c.S f fd) (rm : c.Room n) (hx : IsGlob c.env x = true) (hσ : σ.lookup y = some (.lst (ns₀.map .int))) (hy : IsVar c.env y = true)
    (h : EVs c es σ (fun ds σ' => ∃ ns : List Int, σ'.lookup y = some (.lst (ns.map .int)) ∧ ∃ post, FnMut c.prog c.w c.S f n ns ds post ∧ ∀ d ns', post d ns' → Q d ((y, .lst (ns'.map .int)) :: σ'))) : EV c (.Call (.Name x np) (.Name y yp :: es) [] pos) σ Q := by
  intro m p z s R
  refine wpAny_Call_NameR (ld_glob R hx g ?_)
  obtain ⟨o, ho, hd⟩ := fa.at_
  obtain ⟨own₀, R₀⟩ := R
  obtain ⟨a, us₀, k₀, a1, a2, a3, a4⟩ := own_list R₀ hσ
  refine callWith_def (o := o) (fd := fd) hd (spliced_more (ld_var R₀ hy a2 (wpAny_mono (h pos m p z s ⟨own₀, R₀⟩) (fun vs s₁ q => ?_) fun _ _ x => x)) rfl) rfl
  obtain ⟨z₁, ds, σ₁, g₁, ⟨own, R₁⟩, r₁, ns, hσ₁, post, H, k⟩ := q
  have hge := Rm.heap_ge ⟨own, R₁⟩
  obtain ⟨a', us, k', b1, b2, b3, b4⟩ := own_list R₁ hσ₁
  rw [a2] at b2; cases b2
  obtain ⟨c1, c2, c3, c4, _⟩ := R₁.op y a b1
  refine ⟨hge _ _ ho, wpAny_call (codeAny_mono (H c.A rm.hh rm.hd rm.hu z₁ s₁ a us vs k' R₁.same hge R₁.zk b3 b4.ints c2 (by
    cases e : c.S.heap.get? a with
    | none => rfl
    | some o => have := R₁.gp _ _ e; rw [c1] at this; cases this) r₁) fun res s' q => ?_)⟩
  obtain ⟨v, h', t', z', d, us', k'', ns', rfl, rfl, d1, d2, d3, d4, d5, d6, d7, d8⟩ := q
  have hz'a : z' a = none := by
    cases e : z' a with
    | none => rfl
    | some o =>
      rcases d6 a o e with q | q
      · rw [c2] at q; cases q
      · rw [b3] at q; cases q
  have R₂ := R₁.updOwn' (t := t') (sl := .lst (ns'.map .int)) b1 a2 d1 (fun _ q => by cases q) ⟨us', k'', d2, RdAll.ofInts d3⟩
  refine ⟨z', d, _, g₁.trans ⟨d4, fun b o e => (d6 b o e).imp id fun q => (R₁.apart q).1⟩, ⟨own, R₂.zgrow d4 d5 fun b o e => (d6 b o e).imp id fun q => ?_⟩, d7, k d ns' d8⟩
  obtain ⟨_, _, q3, q4, q5⟩ := R₁.apart q
  exact ⟨q3, q4, q5⟩

/-- statements that let one name be: its value stays -/
def XSP (c : Cx) (x : Str) (u : Value) (ss : List Stmt) (σ : St) (Q : Out → St → Prop) : Prop :=
  ∀ p z s m own, c.RepW p z σ s m own → m x = some u → wpAny c.M c.A (execs ss c.env) (fun f s' => ∃ z' o σ' m' own', Grow p z z' ∧ c.RepW p z' σ' s' m' own' ∧ m' x = some u ∧ FlowRd p z' f o ∧ Q o σ') NoE s
def X1P (c : Cx) (x : Str) (u : Value) (st : Stmt) (σ : St) (Q : Out → St → Prop) : Prop :=
  ∀ p z s m own, c.RepW p z σ s m own → m x = some u → wpAny c.M c.A (exec st c.env) (fun f s' => ∃ z' o σ' m' own', Grow p z z' ∧ c.RepW p z' σ' s' m' own' ∧ m' x = some u ∧ FlowRd p z' f o ∧ Q o σ') NoE s
theorem XSP_nil {x : Str} {u : Value} {Q : Out → St → Prop} (h : Q .next σ) : XSP c x u [] σ Q := fun p z s m own R hm => wpAny_execs_nil ⟨z, .next, σ, m, own, Grow.refl, R, hm, trivial, h⟩
theorem XSP_cons {x : Str} {u : Value} {st : Stmt} {ss : List Stmt} {Q : Out → St → Prop} (h : X1P c x u st σ (fun o σ' => match o with | .next => XSP c x u ss σ' Q | o => Q o σ')) : XSP c x u (st :: ss) σ Q := by
  intro p z s m own R hm
  refine wpAny_execs_cons (wpAny_mono (h p z s m own R hm) (fun f s' y => ?_) fun _ _ x => x)
  obtain ⟨z', o, σ', m', own', g, R', hm', hr, q⟩ := y
  cases f with
  | next =>
    cases o with
    | next =>
      refine wpAny_mono (q p z' s' m' own' R' hm') (fun v s'' y => ?_) fun _ _ x => x
      obtain ⟨z'', d, σ'', m'', own'', g', R'', hm'', hr, q'⟩ := y
      exact ⟨z'', d, σ'', m'', own'', g.trans g', R'', hm'', hr, q'⟩
    | _ => exact hr.elim
  | brk =>
    cases o with
    | brk => exact ⟨z', .brk, σ', m', own', g, R', hm', hr, q⟩
    | _ => exact hr.elim
  | cont =>
    cases o with
    | cont => exact ⟨z', .cont, σ', m', own', g, R', hm', hr, q⟩
    | _ => exact hr.elim
  | ret v =>
    cases o with
    | ret d => exact ⟨z', .ret d, σ', m', own', g, R', hm', hr, q⟩
    | fresh d => exact ⟨z', .fresh d, σ', m', own', g, R', hm', hr, q⟩
    | _ => exact hr.elim
theorem X1P_return {x : Str} {u : Value} {e : Expr} {pos : Pos} {Q : Out → St → Prop} (h : EV c e σ (fun d σ' => Q (.ret d) σ')) : X1P c x u (.Return (some e) pos) σ Q := by
  intro p z s m own R hm
  refine wpAny_Return_some (wpAny_mono (h m p z s ⟨own, R⟩) (fun v s' y => ?_) fun _ _ x => x)
  obtain ⟨z', d, σ', g, ⟨own', R'⟩, hr, q⟩ := y
  exact ⟨z', .ret d, σ', m, own', g, R', hm, hr, q⟩
theorem X1P_assign {x y : Str} {u : Value} {np pos : Pos} {e : Expr} {Q : Out → St → Prop} (h : EV c e σ (fun d σ' => Q .next ((y, .val d) :: σ'))) (hy : IsVar c.env y = true) (hne : (y == x) = false)
    (hs : swapsWith e (some (.Name y np)) pos.line c.env = pure false := by rfl) : X1P c x u (.Assign [.Name y np] e pos) σ Q := by
  intro p z s m own R hm
  refine wpAny_Assign_Name (wpAny_mono (h m p z s ⟨own, R⟩) (fun v s' a => ?_) fun _ _ a => a) hs
  obtain ⟨z', d, σ', g, ⟨own, R'⟩, hr, q⟩ := a
  exact store_any R' hy (ow := none) (sl := .val d) ⟨_, rfl, hr⟩ (fun a e => by cases e) fun s'' m' own' R'' hm' => ⟨z', .next, _, m', own', g, R'', (hm' x (fun q => by rw [q] at hne; simp at hne)).trans hm, trivial, q⟩
theorem X1P_if {x : Str} {u : Value} {t : Expr} {a b : List Stmt} {pos : Pos} {Q : Out → St → Prop} (h : TV c t σ (fun y σ' => if y then XSP c x u a σ' Q else XSP c x u b σ' Q)) : X1P c x u (.If t a b pos) σ Q := by
  intro p z s m own R hm
  refine wpAny_If (wpAny_mono (h m p z s ⟨own, R⟩) (fun y s' q => ?_) fun _ _ x => x)
  obtain ⟨z', σ', g, ⟨own', R'⟩, q⟩ := q
  cases y with
  | true =>
    refine wpAny_mono (q p z' s' m own' R' hm) (fun v s'' y => ?_) fun _ _ x => x
    obtain ⟨z'', d, σ'', m'', own'', g', R'', hm'', hr, q'⟩ := y
    exact ⟨z'', d, σ'', m'', own'', g.trans g', R'', hm'', hr, q'⟩
  | false =>
    refine wpAny_mono (q p z' s' m own' R' hm) (fun v s'' y => ?_) fun _ _ x => x
    obtain ⟨z'', d, σ'', m'', own'', g', R'', hm'', hr, q'⟩ := y
    exact ⟨z'', d, σ'', m'', own'', g.trans g', R'', hm'', hr, q'⟩
theorem XSP.weak {x : Str} {u : Value} {ss : List Stmt} {σ' : St} {Q : Out → St → Prop} (h : XSP c x u ss σ' Q) (k : ∀ x sl, σ'.lookup x = some sl → σ.lookup x = some sl) : XSP c x u ss σ Q := fun p z s m own R hm => h p z s m own (R.weak k) hm
theorem X1P.mono {x : Str} {u : Value} {st : Stmt} {Q Q' : Out → St → Prop} (h : X1P c x u st σ Q) (k : ∀ d σ', Q d σ' → Q' d σ') : X1P c x u st σ Q' := fun p z s m own R hm =>
  wpAny_mono (h p z s m own R hm) (fun f s' ⟨z', o, σ', m', own', g, R', hm', hr, q⟩ => ⟨z', o, σ', m', own', g, R', hm', hr, k _ _ q⟩) fun _ _ x => x

theorem FnMut_intro {prog : Program} {w : World} {S : Shared} {f : Addr} {fd : FuncData} {x : Str} {xs : List Str} {body : List Stmt} {n : Nat} {ns : List Int} {args : List PyData} {post : PyData → List Int → Prop} (fa : FnAt S f fd) (lim : S.heap.NoLimit) (ok : FdOk fd (x :: xs) body) (hl : args.length = xs.length) (hloc : fd.scope.names.lookup x = some .local)
    (h : ∀ (A : Around) (L : Addr) (u : Value), (cxOf prog w S A fd L f).Room n → XSP (cxOf prog w S A fd L f) x u body ((x, .lst (ns.map .int)) :: (xs.zip args).map fun q => (q.1, Slot.val q.2)) (fun o σ' => match o with | .ret d => ∃ ns' : List Int, σ'.lookup x = some (.lst (ns'.map .int)) ∧ post d ns' | _ => False)) :
    FnMut prog w S f (n + 1) ns args post := by
  intro A hh hd hu z s a us vs k h1 h2 h3 ha hi hza hSa h4
  refine enter fa lim ok (by omega) h2 (by simp [h4.length, hl]) fun s₁ y => ?_
  -- the frame first holds the list as a value of a part of its own
  let zz : PH := addAt z a (LO us k)
  have hzz : Le zz s.heap.get? := fun b o e => by
    by_cases q : b = a
    · subst q
      have e' : addAt z b (LO us k) b = some o := e
      rw [addAt_self] at e'; cases e'; exact ha
    · have e' : addAt z a (LO us k) b = some o := e
      rw [addAt_ne q] at e'; exact h3 b o e'
  let pp : PH := fun b => if b = a then none else s.heap.get? b
  have hpp : Le pp s.heap.get? := fun b o e => by
    by_cases q : b = a
    · simp [pp, q] at e
    · simpa [pp, q] using e
  have hSp : Le S.heap.get? pp := fun b o e => by
    by_cases q : b = a
    · subst q; rw [hSa] at e; cases e
    · simpa [pp, q] using h2 b o e
  have zle : Le z zz := Le.addAt hza
  have R0 := enter_state (prog := prog) (w := w) (p := pp) ok h1 hSp hpp hzz (args := .list (ns.map .int) :: args) (.cons (.list (addAt_self _ _ _) (RdAll.ofInts hi)) (h4.mono zle)) (by simp [h4.length, hl]) y
  -- the list becomes the frame's own
  have hxv : bindL (callEnvC fd s.heap.objs.size f).kindOf ((x :: xs).zip (.ref a :: vs)) (fun _ => none) x = some (.ref a) := by
    refine bindL_mem ?_ (by simp) hloc
    have e : ((x :: xs).zip (Value.ref a :: vs)).map (·.1) = x :: xs := List.map_fst_zip (by simp [h4.length, hl])
    rw [e]
    exact ok.xnd
  have hL : a ≠ (callEnvC fd s.heap.objs.size f).locals := Nat.ne_of_lt (Nat.lt_of_lt_of_le (Heap.lt_size ha) y.toInCall.fresh)
  have hC : ∀ y' c', (callEnvC fd s.heap.objs.size f).cells.lookup y' = some c' → a ≠ c' := fun y' c' e => Nat.ne_of_lt (Nat.lt_trans (Nat.lt_of_lt_of_le (Heap.lt_size ha) y.toInCall.fresh) (y.above y' c' (mem_of_lookup e)))
  have zadd : ∀ b, z b = zz b ∨ b = a := fun b => by
    by_cases q : b = a
    · exact .inr q
    · exact .inl (by simp [zz, addAt, q])
  have R1 : RepW prog w S pp z (callEnvC fd s.heap.objs.size f) ((x, .lst (ns.map .int)) :: (xs.zip args).map fun q => (q.1, Slot.val q.2)) s₁
      (fun y => if (callEnvC fd s.heap.objs.size f).kindOf y = some .local then bindL (callEnvC fd s.heap.objs.size f).kindOf ((x :: xs).zip (.ref a :: vs)) (fun _ => none) y else bindC (callEnvC fd s.heap.objs.size f).kindOf ((x :: xs).zip (.ref a :: vs)) (fun _ => none) y) (fun y => if y = x then some a else none) := by
    have znone : ∀ b, zz b = none → z b = none := fun b e => by
      rcases zadd b with q | q
      · rw [q]; exact e
      · rw [q]; exact hza
    have hxk : (callEnvC fd s.heap.objs.size f).kindOf x = some .local := hloc
    refine { R0 with zk := zle.trans R0.zk, lp := ⟨R0.lp.1, znone _ R0.lp.2⟩, cp := fun y' c' e => ⟨(R0.cp y' c' e).1, znone _ (R0.cp y' c' e).2.1, (R0.cp y' c' e).2.2⟩, op := ?_, oo := ?_, slots := ?_ }
    · intro y' b e
      by_cases q : y' = x
      · simp only [q, if_true] at e; cases e
        exact ⟨by simp [pp], hza, hL, hC, _, y.toInCall.keep _ _ ha⟩
      · simp [q] at e
    · intro y' y'' b e e'
      by_cases q : y' = x <;> by_cases q' : y'' = x
      · rw [q, q']
      · simp [q'] at e'
      · simp [q] at e
      · simp [q] at e
    · intro y' sl e
      by_cases q : y' = x
      · subst q
        rw [List.lookup_cons] at e
        simp only [beq_self_eq_true] at e
        cases e
        exact ⟨a, by simp, by simp only [hxk, if_true]; exact hxv, us, k, y.toInCall.keep _ _ ha, RdAll.ofInts hi⟩
      · rw [List.lookup_cons, beq_eq_false_iff_ne.mpr q] at e
        obtain ⟨v, d, m1, rfl, m2⟩ := zip_mem h4 e
        refine ⟨v, ?_, m2⟩
        have nd : (((x :: xs).zip (.ref a :: vs)).map (·.1)).Nodup := by
          rw [List.map_fst_zip (by simp [h4.length, hl])]; exact ok.xnd
        have mm : (y', v) ∈ (x :: xs).zip (.ref a :: vs) := by simp [m1]
        split
        · rename_i hk; exact bindL_mem nd mm hk
        · rename_i hk; exact bindC_mem nd mm hk
  refine wpAny_mono (h A s.heap.objs.size (.ref a) ⟨hh, by show A.depth + 1 + n < 900; omega, by show A.units + 3 + 8 * n < 9000; omega⟩ _ _ _ _ _ R1 (by
    have hxk : (callEnvC fd s.heap.objs.size f).kindOf x = some .local := hloc
    simp only [hxk, if_true]; exact hxv)) (fun fl s' q => ?_) fun _ _ x => x
  obtain ⟨z', o, σ', m', own', g, R', hm', hf, q⟩ := q
  obtain ⟨h', t', e⟩ := R'.same
  obtain ⟨hs, ts, rfl⟩ := h1
  cases fl with
  | next => cases o <;> first | exact hf.elim | exact q.elim
  | brk => cases o <;> first | exact hf.elim | exact q.elim
  | cont => cases o <;> first | exact hf.elim | exact q.elim
  | ret v =>
    cases o with
    | ret d =>
      obtain ⟨ns', hσ', hp⟩ := q
      obtain ⟨a', us', k', b1, b2, b3, b4⟩ := own_list (c := cxOf prog w S A fd _ f) R' hσ'
      rw [hm'] at b2; cases b2
      refine ⟨v, h', t', z', d, us', k', ns', rfl, e, fun b o n eb => ?_, by rw [e] at b3; exact b3, b4.ints, g.1, by rw [e] at R'; exact R'.zk, fun b o eb => ?_, hf, hp⟩
      · have : pp b = some o := by simp only [pp, n, if_false]; exact eb
        have := R'.pk _ _ this
        rw [e] at this; exact this
      · rcases g.2 b o eb with q | q
        · exact .inl q
        · by_cases qa : b = a
          · subst qa
            have := (R'.op x b b1).2.1
            rw [eb] at this; cases this
          · simp only [pp, qa, if_false] at q; exact .inr q
    | fresh d => exact q.elim
    | _ => exact hf.elim
end
end

/-! # part K -/
section

theorem storedD_len (kvs : List (Int × PyData)) (k : Int) (v : PyData) : (storedD kvs k v).length ≤ kvs.length + 1 := by
  unfold storedD; split <;> simp

section
variable {c : Cx} {σ : St}
theorem dcomp_loop {kx vx iter : Expr} {x : Str} {xp : Pos} {scope : Scope} {cl : List (Str × Addr)} {pos : Pos} {m : Str → Option Value} {p z₀ z : PH} {I D C : Addr} {fp : List Addr} {ds : List PyData} {Sh : Nat → Heap → Prop} {own : Str → Option Addr} {s : Shared} {RR : Result → Shared → Prop}
    (ok : BlockOk scope cl c.env x) (W : WalkD c I fp ds Sh z) (T : CTurn c scope cl m p z₀ I D C z σ own s) (hst : Sh 0 s.heap) (hD : s.heap.DictOf (intKind c.prog c.w) D []) (hlen : ds.length ≤ 100000)
    (Inv : List PyData → List (Int × PyData) → St → Prop) (hi : Inv ds [] σ)
    (turn : ∀ C d rest acc σ, Inv (d :: rest) acc σ → ∃ σi, Seen cl σi σ ∧ EV (c.inn scope cl C) kx ((x, .val d) :: σi) (fun k σ' => ∃ n, k = .int n ∧ EV (c.inn scope cl C) vx σ' (fun r σ'' => ∃ σ₂, Merge cl σ'' σ σ₂ ∧ Inv rest (storedD acc n r) σ₂)))
    (hRR : ∀ z' σ' own' s' ps acc, CTurn c scope cl m p z₀ I D C z' σ' own' s' → s'.heap.DictOf (intKind c.prog c.w) D ps → RdPairs z' ps acc → Inv [] acc σ' → RR (.ok .next) s') :
    codeAny c.M c.A (.compLoop (.DictComp kx vx [⟨.Name x xp, iter, [], 0⟩] scope pos) 0 (.ref I) (.ref D) (compEnvC scope cl C c.env)) RR s := by
  obtain ⟨⟨P, W', hP⟩, hio, hstay⟩ := W
  refine codeAny_compLoop_testsD
    (fun n s' => ∃ i z' σ' own' ps acc, i ≤ ds.length ∧ n = ds.length + 1 - i ∧ Sh i s'.heap ∧ CTurn c scope cl m p z₀ I D C z' σ' own' s' ∧ Grow p z z' ∧ s'.heap.DictOf (intKind c.prog c.w) D ps ∧ RdPairs z' ps acc ∧ acc.length ≤ i ∧ Inv (ds.drop i) acc σ') ?_ (ds.length + 1)
    ⟨0, z, σ, own, [], [], Nat.zero_le _, rfl, hst, T, Grow.refl, hD, .nil, Nat.le_refl _, by simpa using hi⟩
  rintro n s' ⟨i, z', σ', own', ps, acc, hle, rfl, hst', T', g', hD', hacc, hal, inv⟩
  by_cases hlt : i < ds.length
  · refine W'.item i s' _ _ hlt hst' fun v h₁ t₁ hPv hst₁ hk₁ => ?_
    have hd : ds[i]? = some ds[i] := List.getElem?_eq_getElem hlt
    have rv : Rd z v ds[i] := hP i v _ hPv hd
    have kb : ∀ b o, b ≠ I → s'.heap.get? b = some o → h₁.get? b = some o := fun b o n e => hk₁ b o (by simpa using n) e
    obtain ⟨mC, oC, esC, epC, hC1, hC2⟩ := T'.hN
    have T₁ := T'.but (t := t₁) T'.aI kb ⟨mC, oC, esC, epC, kb _ _ (Ne.symm T'.hIC) hC1, hC2⟩
    have hD₁ : h₁.DictOf (intKind c.prog c.w) D ps := hD'.at fun o e => kb _ _ (Ne.symm T'.hID) e
    obtain ⟨oI, hoI⟩ := hio _ _ hst₁
    have hN₁ : h₁.Ns C mC := ⟨oC, esC, epC, kb _ _ (Ne.symm T'.hIC) hC1, hC2⟩
    refine wpAny_assign_Name (wpAny_storeName_local (ok.xl C) hN₁ (fun h₂ hn₂ hs₂ => ?_) (by simp [compEnvC, relabel, ok.kind]))
    have kc : ∀ b o, b ≠ C → h₁.get? b = some o → h₂.get? b = some o := fun b o n e => (hs₂.2 b n).trans e
    have T₂ := T₁.but (t := t₁ + 1) T₁.aC kc ⟨_, hn₂⟩
    have hD₂ : h₂.DictOf (intKind c.prog c.w) D ps := hD₁.at fun o e => kc _ _ (Ne.symm T'.hCD) e
    have hI₂ : h₂.get? I = some oI := kc _ _ T'.hIC hoI
    have hdrop : ds.drop i = ds[i] :: ds.drop (i + 1) := (List.drop_eq_getElem_cons hlt)
    rw [hdrop] at inv
    obtain ⟨σi, hs, tt⟩ := turn C _ _ _ _ inv
    have RI := comp_enter (x := x) (v := v) (d := ds[i]) (σi := σi) T₂.R ok T₂.aC hn₂ (by simp) (rv.mono g'.1) hs
    have next : ∀ {z₃ σ₃ s₃ acc'}, CTurn c scope cl m p z₀ I D C z₃ σ₃ acc' s₃ → Grow p z' z₃ → s₃.heap.get? I = some oI → Sh (i + 1) s₃.heap := fun {z₃ σ₃ s₃ acc'} T₃ g₃ hI₃ => by
      refine W'.frame _ _ _ hst₁ fun b hb o e => ?_
      rcases hstay b hb with rfl | ⟨o', e'⟩
      · have e2 : h₁.get? b = some o := e
        rw [hoI] at e2; cases e2
        exact hI₃
      · have h1 := T₁.R.zk _ _ (g'.1 _ _ e')
        have h2 : h₁.get? b = some o' := h1
        rw [h2] at e; cases e
        exact T₃.R.zk _ _ (g₃.1 _ _ (g'.1 _ _ e'))
    have gless : ∀ {z₃ : PH}, Grow (pIn { s' with heap := h₂, toks := t₁ + 1 } C cl own') z' z₃ → Grow p z' z₃ := fun {z₃} g => by
      refine ⟨g.1, fun a o e => (g.2 a o e).imp id fun q => ?_⟩
      rcases pIn_none q with q | rfl | ⟨y, k, e, rfl⟩ | ⟨y, k, e, q⟩
      · cases e : p a with
        | none => rfl
        | some o => have := T₂.R.pk _ _ e; rw [q] at this; cases this
      · exact T₂.aC.p_
      · exact (T₂.R.cp y _ (ok.sub _ _ e)).1
      · exact (T₂.R.op y a q).1
    refine wpAny_tests_nil ?_
    simp only [if_true]
    refine noE (wpAny_mono (tt _ _ _ _ ⟨_, RI⟩) (fun kv s₃ q => ?_) fun _ _ x => x)
    obtain ⟨z₃, kd, σ₃, g₃, ⟨own₃, R₃⟩, r₃, kn, rfl, q⟩ := q
    cases r₃ with
    | int _ kt =>
      refine noE (wpAny_mono (q _ _ _ _ ⟨own₃, R₃⟩) (fun u s₄ q => ?_) fun _ _ x => x)
      obtain ⟨z₄, r, σ₄, g₄, ⟨own₄, R₄⟩, r₄, σ₂, hm, inv'⟩ := q
      have g₅ := g₃.trans g₄
      obtain ⟨oD, hoD, hDr⟩ : ∃ o, h₂.get? D = some o ∧ o.IsDictOf (intKind c.prog c.w) ps := Heap.dictOf_iff.mp hD₂
      obtain ⟨T₄, eI, eD⟩ := T₂.back ok R₄ (fun y hy => by simp only [hy, if_false]) g₅ hm ⟨_, hI₂⟩ ⟨_, hoD⟩
      have hl := hacc.length
      have hD₄ : s₄.heap.DictOf (intKind c.prog c.w) D ps := Heap.dictOf_iff.mpr ⟨oD, eD.trans hoD, hDr⟩
      refine wpAny_dictSet_pairs (knd := intKind c.prog c.w) (hsz := line_of (by rw [hl]; omega)) (intKind_is _ _ _ _) hD₄ fun h₅ hD₅ hs₅ => ?_
      have kd : ∀ b o, b ≠ D → s₄.heap.get? b = some o → h₅.get? b = some o := fun b o n e => (hs₅.2 b n).trans e
      obtain ⟨mC₄, oC₄, es₄, ep₄, c1, c2⟩ := T₄.hN
      have T₅ := T₄.but (t := s₄.toks + 1) T₄.aD kd ⟨mC₄, oC₄, es₄, ep₄, kd _ _ T₄.hCD c1, c2⟩
      have hsl := storedD_len acc kn r
      exact ⟨ds.length + 1 - (i + 1), by omega, i + 1, z₄, σ₂, _, _, storedD acc kn r, hlt, rfl, next T₅ (gless g₅) (kd _ _ T₄.hID (eI.trans hI₂)), T₅, g'.trans (gless g₅), hD₅, (hacc.mono g₅.1).stored r₄, by omega, inv'⟩
  · have hi' : i = ds.length := Nat.le_antisymm hle (Nat.not_lt.mp hlt)
    subst hi'
    refine W'.done s' _ _ hst' fun h₁ t₁ hk₁ => ?_
    have kb : ∀ b o, b ≠ I → s'.heap.get? b = some o → h₁.get? b = some o := fun b o n e => hk₁ b o (by simpa using n) e
    obtain ⟨mC, oC, esC, epC, hC1, hC2⟩ := T'.hN
    have T₁ := T'.but (t := t₁) T'.aI kb ⟨mC, oC, esC, epC, kb _ _ (Ne.symm T'.hIC) hC1, hC2⟩
    rw [List.drop_length] at inv
    exact hRR _ _ _ _ _ _ T₁ (hD'.at fun o e => kb _ _ (Ne.symm T'.hID) e) hacc inv

theorem EF_dictcomp {kx vx iter : Expr} {x : Str} {xp : Pos} {scope : Scope} {cl : List (Str × Addr)} {pos : Pos} {Q : Slot → St → Prop}
    (hmod : ModsOk c.S) (ok : BlockOk scope cl c.env x) (Inv : List PyData → List (Int × PyData) → St → Prop)
    (h : ESrc c iter σ (fun ds σ₁ => ds.length ≤ 100000 ∧ Inv ds [] σ₁))
    (turn : ∀ C d rest acc σ, Inv (d :: rest) acc σ → ∃ σi, Seen cl σi σ ∧ EV (c.inn scope cl C) kx ((x, .val d) :: σi) (fun k σ' => ∃ n, k = .int n ∧ EV (c.inn scope cl C) vx σ' (fun r σ'' => ∃ σ₂, Merge cl σ'' σ σ₂ ∧ Inv rest (storedD acc n r) σ₂)))
    (done : ∀ acc σ', Inv [] acc σ' → Q (.dct acc) σ')
    (hs : ∀ x, foldedSetIterable iter c.env x = pure x := by intro _; rfl) : EF c (.DictComp kx vx [⟨.Name x xp, iter, [], 0⟩] scope pos) σ Q := by
  intro m p z s R
  rw [arm_eval_DictComp]
  refine wpAny_comprehension_free (use := none) rfl hs ok.clos ok.kind ok.names (wpAny_mono (h m p z s R) (fun xv s₁ y => wpAny_mono y (fun it s₂ y => ?_) fun _ _ x => x) fun _ _ x => x)
  obtain ⟨I, fp, ds, Sh, z₁, σ₁, own₁, rfl, g₁, R₁, aI, W, hst, hlen, inv⟩ := y
  obtain ⟨⟨P, W', hP⟩, hio, hstay⟩ := id W
  obtain ⟨oI, hoI⟩ := hio _ _ hst
  refine wpAny_newObj_type (wpAny_newFunctionEnv ok.nocell (by intro y hy; simp at hy) (fun h₁ hns₁ hsb₁ => ?_) ok.kind)
  dsimp only at hns₁ hsb₁ ⊢
  have hCs : (s₂.heap.push { cls := .type "dict", dict := none, data := .dict #[] }).objs.size = s₂.heap.objs.size + 1 := by rw [Heap.size_push]
  rw [hCs] at hns₁ hsb₁
  simp only [hCs]
  have old : ∀ b o, s₂.heap.get? b = some o → h₁.get? b = some o := fun b o e => hsb₁.extBut b o (Nat.ne_of_lt (Nat.lt_succ_of_lt (Heap.lt_size e))) (Heap.get?_push_of_some _ (Heap.get?_push_of_some _ e))
  have hD : h₁.DictOf (intKind c.prog c.w) s₂.heap.objs.size [] := (Heap.DictOf.new (knd := intKind c.prog c.w) s₂.heap).at fun o e => hsb₁.extBut _ _ (Nat.ne_of_lt (Nat.lt_succ_self _)) (Heap.get?_push_of_some _ e)
  have aD : Apart p z₁ c.env own₁ s₂.heap.objs.size := R₁.apart' (get_size _)
  have aC : Apart p z₁ c.env own₁ (s₂.heap.objs.size + 1) := R₁.apart' (Heap.get?_none_of_le (Nat.le_succ _))
  have hT : ∀ t, CTurn c scope cl m p z I s₂.heap.objs.size (s₂.heap.objs.size + 1) z₁ σ₁ own₁ { s₂ with heap := h₁, toks := t } := fun t => ⟨R₁.ext old, g₁, aI, aC, aD, Nat.ne_of_lt (Nat.lt_succ_of_lt (Heap.lt_size hoI)), Nat.ne_of_lt (Heap.lt_size hoI), Nat.ne_of_gt (Nat.lt_succ_self _), ⟨_, hns₁⟩⟩
  have hst₁ : Sh 0 h₁ := W'.frame _ _ _ hst fun b _ o e => old b o e
  have loop : ∀ t, codeAny c.M c.A (.compLoop (.DictComp kx vx [⟨.Name x xp, iter, [], 0⟩] scope pos) 0 (.ref I) (.ref s₂.heap.objs.size) (compEnvC scope cl (s₂.heap.objs.size + 1) c.env)) (compPost c.M c.A NoE none (fun v s' => ∃ z' sl σ', Grow p z z' ∧ (∃ m' own, c.RepW p z' ((tmp, sl) :: σ') s' m' own ∧ m' tmp = some v ∧ (∃ a, own tmp = some a) ∧ ∀ y, y ≠ tmp → m' y = m y) ∧ Q sl σ') (.ref s₂.heap.objs.size) (s₂.heap.objs.size + 1)) { s₂ with heap := h₁, toks := t } := fun t => by
    refine dcomp_loop ok W (hT t) hst₁ hD hlen Inv inv turn fun z' σ' own' s' ps acc T e r i => ?_
    obtain ⟨mC, hn⟩ := T.hN
    refine ⟨mC, hn, fun h' hs' => ?_⟩
    have kc : ∀ b o, b ≠ s₂.heap.objs.size + 1 → s'.heap.get? b = some o → h'.get? b = some o := fun b o n e => (hs'.2 b n).trans e
    have R₂ : c.RepW p z' σ' { s' with heap := h', toks := s'.toks } m own' := T.R.but T.aC.all kc
    refine ⟨z', .dct acc, σ', T.g, ?_, done acc σ' i⟩
    exact ⟨_, _, R₂.own (sl := .dct acc) T.aD.all (fun _ q => by cases q) ⟨ps, e.at fun o eo => kc _ _ (Ne.symm T.hCD) eo, r, big_of hmod R₁⟩, by simp, ⟨_, by simp; rfl⟩, fun y hy => by simp [hy]⟩
  exact codeAny_compStart_dict (loop _) (W'.self 0 _ _ _ hst₁ (loop _))

/-! ### zip of two lists, laid out -/
/-- a pair of the walk, once a pair was handed out -/
abbrev IsZipK (h : Heap) (z TI TO T : Addr) (b : Bool) : Prop :=
  h.get? z = some { cls := .type "zip", dict := none, data := .fields #[rawInt T, .bool b, .bool false, .ref TI, .ref TO], slots := #[] }
section
variable {prog : Program} {w : World} {A : Around} {E : Value → Shared → Prop} {s : Shared}
theorem zip_isFree {z TI TO T : Addr} {bb : Bool} {oT : Obj} (hT : s.heap.get? T = some oT) (hz : IsZipK s.heap z TI TO T bb) :
    wpAny (model prog w) A (Builtin.SmallTypes.ownedTupleIsFree (.ref z)) (fun b s' => b = false ∧ ∃ h₁, s' = { s with heap := h₁ } ∧ IsZipK h₁ z TI TO T true ∧ Heap.SameBut z s.heap h₁) E s := by
  unfold Builtin.SmallTypes.ownedTupleIsFree
  refine wpAny_bind (wpAny_field hz rfl (x := rawInt T) rfl ?_)
  show wpAny _ _ (loadIfAlive ((T : Int).toNat) >>= _) _ _ _
  rw [Int.toNat_natCast]
  refine wpAny_bind (kdx_alive hT ?_)
  simp only [Option.isNone_some, Bool.false_eq_true, if_false]
  refine wpAny_bind (wpAny_field hz rfl (x := .bool bb) rfl ?_)
  cases bb with
  | true =>
    rw [if_neg (show ¬ ((Value.bool true != Value.bool true) = true) from Bool.false_ne_true)]
    exact wpAny_pure ⟨rfl, s.heap, rfl, hz, Heap.SameBut.refl _ _⟩
  | false =>
    rw [if_pos (show (Value.bool false != Value.bool true) = true from rfl)]
    exact wpAny_bind (wpAny_setField_rec hz (by simp) fun h₃ he₃ hs₃ => wpAny_pure ⟨rfl, h₃, rfl, he₃, hs₃⟩)

theorem zipk_item {z TI TO T i1 i2 l1 l2 : Addr} {k1 k2 : Nat} {bb : Bool} {oT : Obj} {xs ys : Array Value} {x y : Value} {Q : Value → Shared → Prop} (D : ZipApart z TI TO i1 i2 l1 l2) (hT : s.heap.get? T = some oT)
    (hz : IsZipK s.heap z TI TO T bb) (hTI : IsPair s.heap TI (.ref i1) (.ref i2))
    (h1 : s.heap.IsListIter i1 l1 k1) (h2 : s.heap.IsListIter i2 l2 k2) (hl1 : s.heap.IsList l1 xs) (hl2 : s.heap.IsList l2 ys) (hx : xs[k1]? = some x) (hy : ys[k2]? = some y)
    (hQ : ∀ h', IsZipK h' z TI TO T true → h'.IsListIter i1 l1 (k1 + 1) → h'.IsListIter i2 l2 (k2 + 1) → IsPair h' s.heap.objs.size x y →
      (∀ c o, c ≠ z → c ≠ i1 → c ≠ i2 → s.heap.get? c = some o → h'.get? c = some o) → Q (.ref s.heap.objs.size) { s with heap := h' }) :
    wpAny (model prog w) A (Builtin.«zip.__next__» ⟨[.ref z], []⟩) (fun fin s' => ∃ v, fin = .done (.ret v) ∧ Q v s') E s := by
  show wpAny _ _ (field (.ref z) 2 >>= _) _ _ _
  refine wpAny_bind (wpAny_field hz rfl (x := .bool false) rfl ?_)
  show wpAny _ _ (field (.ref z) 3 >>= _) _ _ _
  refine wpAny_bind (wpAny_field hz rfl (x := .ref TI) rfl ?_)
  refine wpAny_bind (wpAny_seqItems hTI rfl ?_)
  show wpAny _ _ (Builtin.SmallTypes.ownedTupleIsFree (.ref z) >>= _) _ _ _
  refine wpAny_bind (wpAny_mono (zip_isFree hT hz) (fun b s' h => ?_) fun _ _ x => x)
  obtain ⟨rfl, h₁, rfl, hz₁, hs₁⟩ := h
  simp only [Bool.false_eq_true, if_false]
  refine wpAny_bind ?_
  simp only [List.forIn_toArray, List.forIn_cons, List.forIn_nil]
  refine wpAny_bind (wpAny_bind (wpAny_holding ?_))
  show wpAny _ _ (Builtin.SmallTypes.nextOf (.ref i1) >>= _) _ _ _
  refine wpAny_bind (wpAny_nextOf_list_item (h1.extBut hs₁.extBut D.i1z) (hl1.extBut hs₁.extBut D.l1z) hx fun h₂ h1₂ hs₂ => wpAny_pure ?_)
  refine wpAny_pure ?_
  refine wpAny_bind (wpAny_bind (wpAny_holding ?_))
  show wpAny _ _ (Builtin.SmallTypes.nextOf (.ref i2) >>= _) _ _ _
  refine wpAny_bind (wpAny_nextOf_list_item ((h2.extBut hs₁.extBut D.i2z).extBut hs₂.extBut D.i12.symm) ((hl2.extBut hs₁.extBut D.l2z).extBut hs₂.extBut D.l2i1) hy fun h₄ h2₄ hs₄ => wpAny_pure ?_)
  refine wpAny_pure (wpAny_pure ?_)
  refine wpAny_bind (wpAny_newTuple ?_ (line_of (by simp)))
  have hsz : h₄.objs.size = s.heap.objs.size := by rw [hs₄.1, hs₂.1, hs₁.1]
  have hz₄ : IsZipK h₄ z TI TO T true := hs₄.extBut _ _ D.i2z.symm (hs₂.extBut _ _ D.i1z.symm hz₁)
  have hk : ∀ c o, c ≠ z → c ≠ i1 → c ≠ i2 → s.heap.get? c = some o → h₄.get? c = some o := fun c o c1 c2 c3 e => hs₄.extBut _ _ c3 (hs₂.extBut _ _ c2 (hs₁.extBut _ _ c1 e))
  refine wpAny_pure ⟨_, rfl, ?_⟩
  show Q (.ref h₄.objs.size) _
  have g : IsPair (h₄.push { cls := .type "tuple", data := .seq #[x, y] }) h₄.objs.size x y := Heap.get?_push_size _ rfl
  rw [hsz] at g ⊢
  exact hQ _ (Heap.get?_push_of_some _ hz₄) ((h1₂.extBut hs₄.extBut D.i12).at fun o e => Heap.get?_push_of_some _ e) (h2₄.at fun o e => Heap.get?_push_of_some _ e) g fun c o c1 c2 c3 e => Heap.get?_push_of_some _ (hk c o c1 c2 c3 e)

theorem zipk_end {z TI TO T i1 i2 l1 l2 : Addr} {k1 k2 : Nat} {bb : Bool} {oT : Obj} {xs ys : Array Value} {Q : Fin → Shared → Prop} (hh : A.handled = none) (D : ZipApart z TI TO i1 i2 l1 l2) (hT : s.heap.get? T = some oT)
    (hz : IsZipK s.heap z TI TO T bb) (hTI : IsPair s.heap TI (.ref i1) (.ref i2))
    (h1 : s.heap.IsListIter i1 l1 k1) (h2 : s.heap.IsListIter i2 l2 k2) (hl1 : s.heap.IsList l1 xs) (hl2 : s.heap.IsList l2 ys) (hend : xs[k1]? = none ∨ ys[k2]? = none)
    (hE : ∀ h' e, (∀ c o, c ≠ z → c ≠ i1 → c ≠ i2 → s.heap.get? c = some o → h'.get? c = some o) → (∃ o, h'.get? e = some o ∧ o.cls = .type "StopIteration") → E (.ref e) { s with heap := h' }) :
    wpAny (model prog w) A (Builtin.«zip.__next__» ⟨[.ref z], []⟩) Q E s := by
  show wpAny _ _ (field (.ref z) 2 >>= _) _ _ _
  refine wpAny_bind (wpAny_field hz rfl (x := .bool false) rfl ?_)
  show wpAny _ _ (field (.ref z) 3 >>= _) _ _ _
  refine wpAny_bind (wpAny_field hz rfl (x := .ref TI) rfl ?_)
  refine wpAny_bind (wpAny_seqItems hTI rfl ?_)
  show wpAny _ _ (Builtin.SmallTypes.ownedTupleIsFree (.ref z) >>= _) _ _ _
  refine wpAny_bind (wpAny_mono (zip_isFree hT hz) (fun b s' h => ?_) fun _ _ x => x)
  obtain ⟨rfl, h₁, rfl, hz₁, hs₁⟩ := h
  simp only [Bool.false_eq_true, if_false]
  refine wpAny_bind ?_
  simp only [List.forIn_toArray, List.forIn_cons, List.forIn_nil]
  refine wpAny_bind (wpAny_bind (wpAny_holding ?_))
  show wpAny _ _ (Builtin.SmallTypes.nextOf (.ref i1) >>= _) _ _ _
  cases hx : xs[k1]? with
  | none =>
    refine wpAny_bind (wpAny_nextOf_list_end hh (h1.extBut hs₁.extBut D.i1z) (hl1.extBut hs₁.extBut D.l1z) hx fun h₂ e hs₂ he => ?_)
    exact hE h₂ e (fun c o c1 c2 _ x => hs₂ _ _ c2 (hs₁.extBut _ _ c1 x)) he
  | some x =>
    have hy : ys[k2]? = none := by rcases hend with h | h; rw [hx] at h; cases h; exact h
    refine wpAny_bind (wpAny_nextOf_list_item (h1.extBut hs₁.extBut D.i1z) (hl1.extBut hs₁.extBut D.l1z) hx fun h₂ h1₂ hs₂ => wpAny_pure ?_)
    refine wpAny_pure ?_
    refine wpAny_bind (wpAny_bind (wpAny_holding ?_))
    show wpAny _ _ (Builtin.SmallTypes.nextOf (.ref i2) >>= _) _ _ _
    refine wpAny_bind (wpAny_nextOf_list_end hh ((h2.extBut hs₁.extBut D.i2z).extBut hs₂.extBut D.i12.symm) ((hl2.extBut hs₁.extBut D.l2z).extBut hs₂.extBut D.l2i1) hy fun h₄ e hs₄ he => ?_)
    exact hE h₄ e (fun c o c1 c2 c3 x => hs₄ _ _ c3 (hs₂.extBut _ _ c2 (hs₁.extBut _ _ c1 x))) he

/-- how the walk stands: the first pair still to come, or one handed out -/
structure ZSt (h : Heap) (B z TI TO i1 i2 l1 l2 : Addr) (xs ys : Array Value) (i : Nat) : Prop where
  ti : IsPair h TI (.ref i1) (.ref i2)
  to : ∃ a b, IsPair h TO a b
  h1 : h.IsListIter i1 l1 i
  h2 : h.IsListIter i2 l2 i
  l1 : h.IsList l1 xs
  l2 : h.IsList l2 ys
  z : IsZip h z TI TO .none ∨ ∃ T bb oT, IsZipK h z TI TO T bb ∧ h.get? T = some oT ∧ B ≤ T
theorem ZSt.keep {h h' : Heap} {B z TI TO i1 i2 l1 l2 : Addr} {xs ys : Array Value} {i : Nat} (Z : ZSt h B z TI TO i1 i2 l1 l2 xs ys i) {S : Addr} (hk : ∀ b o, b ≠ S → h.get? b = some o → h'.get? b = some o)
    (hB : S < B) (n1 : TI ≠ S) (n2 : TO ≠ S) (n3 : i1 ≠ S) (n4 : i2 ≠ S) (n5 : l1 ≠ S) (n6 : l2 ≠ S) (n7 : z ≠ S) : ZSt h' B z TI TO i1 i2 l1 l2 xs ys i where
  ti := hk _ _ n1 Z.ti
  to := let ⟨a, b, e⟩ := Z.to; ⟨a, b, hk _ _ n2 e⟩
  h1 := Z.h1.at fun o e => hk _ _ n3 e
  h2 := Z.h2.at fun o e => hk _ _ n4 e
  l1 := Z.l1.at fun o e => hk _ _ n5 e
  l2 := Z.l2.at fun o e => hk _ _ n6 e
  z := Z.z.imp (fun e => hk _ _ n7 e) fun ⟨T, bb, oT, e1, e2, e3⟩ => ⟨T, bb, oT, hk _ _ n7 e1, hk _ _ (fun q => by rw [q] at e3; exact Nat.lt_irrefl _ (Nat.lt_of_lt_of_le hB e3)) e2, e3⟩

theorem zst_item {B z TI TO i1 i2 l1 l2 : Addr} {i : Nat} {xs ys : Array Value} {x y : Value} {Q : Option Value → Shared → Prop} (D : ZipApart z TI TO i1 i2 l1 l2) (Z : ZSt s.heap B z TI TO i1 i2 l1 l2 xs ys i) (hB : B ≤ s.heap.objs.size) (hzB : z < B) (hiB : i1 < B) (hi2B : i2 < B)
    (hx : xs[i]? = some x) (hy : ys[i]? = some y)
    (hQ : ∀ h', ZSt h' B z TI TO i1 i2 l1 l2 xs ys (i + 1) → IsPair h' s.heap.objs.size x y → (∀ c o, c ≠ z → c ≠ TO → c ≠ i1 → c ≠ i2 → s.heap.get? c = some o → h'.get? c = some o) → Q (some (.ref s.heap.objs.size)) { s with heap := h' }) :
    wpAny (model prog w) A (pyNext (.ref z)) Q E s := by
  rcases Z.z with hz | ⟨T, bb, oT, hz, hT, hBT⟩
  · obtain ⟨a, b, hTO⟩ := Z.to
    refine wpAny_pyNext_zip_item D hz Z.ti hTO Z.h1 Z.h2 Z.l1 Z.l2 hx hy fun h' a1 a2 a3 a4 a5 a6 hk => ?_
    exact hQ h' ⟨hk _ _ D.TIz D.TITO D.TIi1 D.TIi2 Z.ti, ⟨_, _, a2⟩, a3, a4, Z.l1.at fun o e => hk _ o D.l1z D.l1TO D.l1i1 D.l1i2 e, Z.l2.at fun o e => hk _ o D.l2z D.l2TO D.l2i1 D.l2i2 e,
      .inr ⟨_, false, _, a1, a5, hB⟩⟩ a5 hk
  · have hT' : s.TypeIs (.ref z) "zip" := ⟨_, hz, rfl⟩
    unfold pyNext
    refine wpAny_bind (wpAny_attempt (wpAny_callSpecial?_slot (name := Str.ofString "__next__") hT' PySem.F.slot_zip_next
      (wpAny_call_entry PySem.F.slot_zip_next hT' PySem.F.entry_zip_next
        (zipk_item D hT hz Z.ti Z.h1 Z.h2 Z.l1 Z.l2 hx hy fun h' a1 a3 a4 a5 hk => wpAny_pure ?_) (PySem.F.args_zip_next_1 _))))
    have ne : ∀ k, k < B → T ≠ k := fun k e q => by rw [q] at hBT; exact Nat.lt_irrefl _ (Nat.lt_of_lt_of_le e hBT)
    obtain ⟨a, b, hTO⟩ := Z.to
    exact hQ h' ⟨hk _ _ D.TIz D.TIi1 D.TIi2 Z.ti, ⟨a, b, hk _ _ D.TOz D.TOi1 D.TOi2 hTO⟩, a3, a4, Z.l1.at fun o e => hk _ o D.l1z D.l1i1 D.l1i2 e, Z.l2.at fun o e => hk _ o D.l2z D.l2i1 D.l2i2 e,
      .inr ⟨T, true, oT, a1, hk _ _ (ne _ hzB) (ne _ hiB) (ne _ hi2B) hT, hBT⟩⟩ a5 fun c o c1 _ c3 c4 e => hk c o c1 c3 c4 e
theorem zst_done {B z TI TO i1 i2 l1 l2 : Addr} {i : Nat} {xs ys : Array Value} {Q : Option Value → Shared → Prop} (hh : A.handled = none) (D : ZipApart z TI TO i1 i2 l1 l2) (Z : ZSt s.heap B z TI TO i1 i2 l1 l2 xs ys i)
    (hend : xs[i]? = none ∨ ys[i]? = none) (hQ : ∀ h', (∀ c o, c ≠ z → c ≠ TO → c ≠ i1 → c ≠ i2 → s.heap.get? c = some o → h'.get? c = some o) → Q none { s with heap := h' }) :
    wpAny (model prog w) A (pyNext (.ref z)) Q E s := by
  rcases Z.z with hz | ⟨T, bb, oT, hz, hT, hBT⟩
  · obtain ⟨a, b, hTO⟩ := Z.to
    exact wpAny_pyNext_zip_end hh D hz Z.ti hTO Z.h1 Z.h2 Z.l1 Z.l2 hend hQ
  · have hT' : s.TypeIs (.ref z) "zip" := ⟨_, hz, rfl⟩
    unfold pyNext
    refine wpAny_bind (wpAny_attempt (wpAny_callSpecial?_slot (name := Str.ofString "__next__") hT' PySem.F.slot_zip_next
      (wpAny_call_entry PySem.F.slot_zip_next hT' PySem.F.entry_zip_next (zipk_end hh D hT hz Z.ti Z.h1 Z.h2 Z.l1 Z.l2 hend fun h' e hk he => ?_) (PySem.F.args_zip_next_1 _))))
    obtain ⟨o, ho, hc⟩ := he
    refine wpAny_bind (wpAny_isInstance (T := "StopIteration") (b := true) ⟨o, ho, hc⟩ isSubtype_stop ?_)
    exact wpAny_pure (hQ _ fun c o c1 _ c3 c4 e => hk c o c1 c3 c4 e)
end

/-- the pairs that stand in the list -/
def ZGot (h : Heap) (B : Addr) (xs ys : Array Value) (as : List Addr) : Prop := ∀ (j : Nat) (a : Addr), as[j]? = some a → B ≤ a ∧ ∃ x y, xs[j]? = some x ∧ ys[j]? = some y ∧ IsPair h a x y
section
variable {prog : Program} {w : World} {A : Around} {s : Shared} {R : Result → Shared → Prop} {xs ys : Array Value}
theorem zip_loop {B S z TI TO i1 i2 l1 l2 : Addr} (hh : A.handled = none) (D : ZipApart z TI TO i1 i2 l1 l2) (bs : ∀ a ∈ [z, TI, TO, i1, i2, l1, l2], a < B ∧ a ≠ S) (hSB : S < B) (hn : min xs.size ys.size ≤ sizeLine) (res : Value) {h₁ : Heap}
    (hR : ∀ h' tk acc c as, (∀ b o, b ≠ S → b ≠ z → b ≠ TO → b ≠ i1 → b ≠ i2 → h₁.get? b = some o → h'.get? b = some o) → h'.get? S = some { cls := .type "list", dict := none, data := .seq acc c, slots := #[] } → as.length = min xs.size ys.size → ZGot h' B xs ys as →
      acc.toList = as.map Value.ref → R (.ok (.ret res)) { s with heap := h', toks := tk }) :
    ∀ (k i : Nat) (h : Heap) (tk c : Nat) (acc : Array Value) (as : List Addr), min xs.size ys.size - i = k → i ≤ min xs.size ys.size → ZSt h B z TI TO i1 i2 l1 l2 xs ys i → (∀ b o, b ≠ S → b ≠ z → b ≠ TO → b ≠ i1 → b ≠ i2 → h₁.get? b = some o → h.get? b = some o) →
      h.get? S = some { cls := .type "list", dict := none, data := .seq acc c, slots := #[] } → acc.toList = as.map Value.ref → as.length = i → ZGot h B xs ys as → B ≤ h.objs.size →
      codeAny (model prog w) A (.builtin "list.extend.loop" ⟨[.ref S, .ref z, res], []⟩) R { s with heap := h, toks := tk } := by
  obtain ⟨bz, bTI, bTO, bi1, bi2, bl1, bl2⟩ : (z < B ∧ z ≠ S) ∧ (TI < B ∧ TI ≠ S) ∧ (TO < B ∧ TO ≠ S) ∧ (i1 < B ∧ i1 ≠ S) ∧ (i2 < B ∧ i2 ≠ S) ∧ (l1 < B ∧ l1 ≠ S) ∧ (l2 < B ∧ l2 ≠ S) :=
    ⟨bs _ (by simp), bs _ (by simp), bs _ (by simp), bs _ (by simp), bs _ (by simp), bs _ (by simp), bs _ (by simp)⟩
  have ne : ∀ {a k}, B ≤ a → k < B → a ≠ k := fun h1 h2 q => by rw [q] at h1; exact Nat.lt_irrefl _ (Nat.lt_of_lt_of_le h2 h1)
  intro k
  induction k with
  | zero =>
    intro i h tk c acc as hk hi hst hkeep hS hacc hal hG hIs
    have hend : xs[i]? = none ∨ ys[i]? = none := by
      rcases Nat.le_total xs.size ys.size with h | h
      · exact .inl (Array.getElem?_eq_none (by omega))
      · exact .inr (Array.getElem?_eq_none (by omega))
    refine codeAny_builtin PySem.F.entry_extend_loop ?_
    rw [Around.under_plainId PySem.F.plain_extend_loop _]
    show wpAny _ A.in1 (pyNext (.ref z) >>= _) _ _ _
    refine wpAny_bind (zst_done (s := { s with heap := h, toks := tk }) (A := A.in1) hh D hst hend fun h' he => ?_)
    refine wpAny_pure (hR h' tk acc c as (fun b o h1 h2 h3 h4 h5 e => he b o h2 h3 h4 h5 (hkeep b o h1 h2 h3 h4 h5 e)) (he S _ (Ne.symm bz.2) (Ne.symm bTO.2) (Ne.symm bi1.2) (Ne.symm bi2.2) hS) (by omega) (fun j a hj => ?_) hacc)
    obtain ⟨q, x, y, e1, e2, e3⟩ := hG j a hj
    exact ⟨q, x, y, e1, e2, he a _ (ne q bz.1) (ne q bTO.1) (ne q bi1.1) (ne q bi2.1) e3⟩
  | succ k ih =>
    intro i h tk c acc as hk hi hst hkeep hS hacc hal hG hIs
    have hlt : i < min xs.size ys.size := by omega
    obtain ⟨x, hx⟩ : ∃ p, xs[i]? = some p := ⟨xs[i]'(by omega), Array.getElem?_eq_getElem (by omega)⟩
    obtain ⟨y, hy⟩ : ∃ p, ys[i]? = some p := ⟨ys[i]'(by omega), Array.getElem?_eq_getElem (by omega)⟩
    have hsz : acc.size = i := by rw [← Array.length_toList, hacc, List.length_map, hal]
    refine codeAny_builtin PySem.F.entry_extend_loop ?_
    rw [Around.under_plainId PySem.F.plain_extend_loop _]
    show wpAny _ A.in1 (pyNext (.ref z) >>= _) _ _ _
    refine wpAny_bind (zst_item (s := { s with heap := h, toks := tk }) D hst hIs bz.1 bi1.1 bi2.1 hx hy fun h' hst' ht hkp => ?_)
    dsimp only at ht hkp ⊢
    have hS' := hkp S _ (Ne.symm bz.2) (Ne.symm bTO.2) (Ne.symm bi1.2) (Ne.symm bi2.2) hS
    have up : ∀ b o, b ≠ S → h'.get? b = some o → (h'.update S (Obj.mapSeq (·.push (Value.ref h.objs.size)))).get? b = some o := fun b o hb e => (Heap.get?_update_other _ _ (Ne.symm hb)).trans e
    show wpAny _ A.in1 (updateSeq S (·.push (Value.ref h.objs.size)) >>= _) _ _ _
    refine wpAny_bind ?_
    refine wpAny_updateSeq hS' rfl (wpAny_pure ⟨plainId_quiet PySem.F.plain_extend_loop _, ih (i + 1) _ tk _ (acc.push (Value.ref h.objs.size)) (as ++ [h.objs.size]) (by omega) hlt (hst'.keep up hSB bTI.2 bTO.2 bi1.2 bi2.2 bl1.2 bl2.2 bz.2)
      (fun b o h1 h2 h3 h4 h5 e => up b o h1 (hkp b o h2 h3 h4 h5 (hkeep b o h1 h2 h3 h4 h5 e))) (Heap.get?_update_self _ hS' rfl) (by rw [Array.toList_push, hacc, List.map_append]; rfl) (by rw [List.length_append, hal]; rfl) ?_ ?_⟩) (by rw [hsz]; omega) (by show (acc.push (Value.ref h.objs.size)).size ≤ sizeLine + 1; rw [Array.size_push, hsz]; omega)
    · intro j b hj
      rcases Nat.lt_trichotomy j as.length with q | q | q
      · rw [List.getElem?_append_left q] at hj
        obtain ⟨q, x', y', e1, e2, e3⟩ := hG j b hj
        exact ⟨q, x', y', e1, e2, up b _ (ne q hSB) (hkp b _ (ne q bz.1) (ne q bTO.1) (ne q bi1.1) (ne q bi2.1) e3)⟩
      · subst q
        have hb : h.objs.size = b := by simpa using hj
        subst hb
        exact ⟨hIs, x, y, by rw [hal]; exact hx, by rw [hal]; exact hy, up _ _ (ne hIs hSB) ht⟩
      · have hnone : (as ++ [h.objs.size])[j]? = none := List.getElem?_eq_none (by rw [List.length_append, List.length_singleton]; omega)
        rw [hnone] at hj; cases hj
    · exact Nat.le_of_lt (Nat.lt_of_le_of_lt hIs (Heap.lt_size (up _ _ (ne hIs hSB) ht)))
end
section
variable {prog : Program} {w : World} {A : Around} {E : Value → Shared → Prop} {s : Shared} {xs ys : Array Value} {B z TI TO i1 i2 l1 l2 : Addr}
theorem zip_no_len : typeLookup (.type "zip") "__len__" = pure none := by rw [typeLookup_type, builtinLookup_eq_fast]; kernel_rfl
theorem zip_no_hint : typeLookup (.type "zip") "__length_hint__" = pure none := by rw [typeLookup_type, builtinLookup_eq_fast]; kernel_rfl

theorem ZSt.typeIs {i : Nat} (Z : ZSt s.heap B z TI TO i1 i2 l1 l2 xs ys i) : s.TypeIs (.ref z) "zip" := by
  rcases Z.z with e | ⟨T, bb, oT, e, _⟩
  · exact ⟨_, e, rfl⟩
  · exact ⟨_, e, rfl⟩

theorem zip_extend {R : Result → Shared → Prop} {S : Addr} (hh : A.handled = none) (D : ZipApart z TI TO i1 i2 l1 l2) (Z : IsZip s.heap z TI TO .none ∧ ZSt s.heap B z TI TO i1 i2 l1 l2 xs ys 0) (hB : B ≤ s.heap.objs.size)
    (bs : ∀ a ∈ [z, TI, TO, i1, i2, l1, l2], a < B ∧ a ≠ S) (hSB : S < B) (hn : min xs.size ys.size ≤ sizeLine) (res : Value) (c₀ : Nat) (hS : s.heap.get? S = some { cls := .type "list", data := .seq #[] c₀ })
    (hR : ∀ h' tk acc c as, (∀ b o, b ≠ S → b ≠ z → b ≠ TO → b ≠ i1 → b ≠ i2 → s.heap.get? b = some o → h'.get? b = some o) → h'.get? S = some { cls := .type "list", dict := none, data := .seq acc c, slots := #[] } → as.length = min xs.size ys.size → ZGot h' B xs ys as →
      acc.toList = as.map Value.ref → R (.ok (.ret res)) { s with heap := h', toks := tk }) :
    wpAny (model prog w) A.in1 (Builtin.List.listExtendWith (.ref S) (.ref z) res)
      (fun fin s' => match fin with | .done f => R (.ok f) s' | .again c' => c'.quiet = true ∧ codeAny (model prog w) A c' R s') (fun e s' => R (.error e) s') s := by
  obtain ⟨bz, bTI, bTO, bi1, bi2, bl1, bl2⟩ : (z < B ∧ z ≠ S) ∧ (TI < B ∧ TI ≠ S) ∧ (TO < B ∧ TO ≠ S) ∧ (i1 < B ∧ i1 ≠ S) ∧ (i2 < B ∧ i2 ≠ S) ∧ (l1 < B ∧ l1 ≠ S) ∧ (l2 < B ∧ l2 ≠ S) :=
    ⟨bs _ (by simp), bs _ (by simp), bs _ (by simp), bs _ (by simp), bs _ (by simp), bs _ (by simp), bs _ (by simp)⟩
  unfold Builtin.List.listExtendWith
  refine wpAny_bind (wpAny_typeOf (T := "zip") Z.2.typeIs ?_)
  have h1 : Builtin.List.listSameRef (.ref S) (.ref z) = false := by simp [Builtin.List.listSameRef, Ne.symm bz.2]
  have h2 : (Value.type "zip" == Value.type "list") = false := by decide
  have h3 : (Value.type "zip" == Value.type "tuple") = false := by decide
  simp only [h1, h2, h3, Bool.or_false, Bool.false_eq_true, if_false]
  refine wpAny_bind (wpAny_pyIter_zip Z.1 ?_)
  refine wpAny_bind (wpAny_holding ?_)
  unfold Builtin.List.listLengthHint
  refine wpAny_bind (wpAny_specialOf Z.2.typeIs zip_no_len ?_)
  show wpAny _ A.in1 (specialOf (Value.ref z) (Str.ofString "__length_hint__") >>= _) _ _ _
  refine wpAny_bind (wpAny_specialOf Z.2.typeIs zip_no_hint ?_)
  refine wpAny_pure ?_
  show wpAny _ A.in1 (rule "list.extend.makes-room" >>= fun _ => Builtin.List.listTouch (.ref S) >>= fun _ =>
    again (.builtin "list.extend.loop" ⟨[.ref S, .ref z, res], []⟩)) _ _ _
  refine wpAny_bind (wpAny_rule ?_)
  refine wpAny_bind ?_
  show wpAny _ A.in1 (updateSeq S (·.push .none) >>= fun _ => updateSeq S (·.pop)) _ _ _
  refine wpAny_bind (wpAny_updateSeq hS rfl ?_)
  have hS₂ := Heap.get?_update_self (Obj.mapSeq (·.push Value.none)) hS rfl
  refine wpAny_updateSeq (hz := by seq_fits) hS₂ rfl ?_
  have hS₃ := Heap.get?_update_self (Obj.mapSeq (·.pop)) hS₂ rfl
  have oth : ∀ b o, b ≠ S → s.heap.get? b = some o → ((s.heap.update S (Obj.mapSeq (·.push Value.none))).update S (Obj.mapSeq (·.pop))).get? b = some o :=
    fun b o hb e => (Heap.get?_update_other _ _ (Ne.symm hb)).trans ((Heap.get?_update_other _ _ (Ne.symm hb)).trans e)
  have hsz : ((s.heap.update S (Obj.mapSeq (·.push Value.none))).update S (Obj.mapSeq (·.pop))).objs.size = s.heap.objs.size := by rw [Heap.size_update, Heap.size_update]
  refine wpAny_pure ⟨plainId_quiet PySem.F.plain_extend_loop _, zip_loop (s := s) (B := B) (h₁ := s.heap) hh D bs hSB hn res (fun h' tk acc c as k e1 e2 e3 e4 => hR h' tk acc c as k e1 e2 e3 e4) _ 0 _ _ _ #[] [] rfl (Nat.zero_le _)
    (Z.2.keep oth hSB bTI.2 bTO.2 bi1.2 bi2.2 bl1.2 bl2.2 bz.2) (fun b o hb _ _ _ _ e => oth b o hb e) hS₃ rfl rfl (fun j a hj => by simp at hj) (by rw [hsz]; exact hB)⟩

theorem zip_init {R : Result → Shared → Prop} {S : Addr} (hh : A.handled = none) (D : ZipApart z TI TO i1 i2 l1 l2) (Z : IsZip s.heap z TI TO .none ∧ ZSt s.heap B z TI TO i1 i2 l1 l2 xs ys 0) (hB : B ≤ s.heap.objs.size)
    (bs : ∀ a ∈ [z, TI, TO, i1, i2, l1, l2], a < B ∧ a ≠ S) (hSB : S < B) (hn : min xs.size ys.size ≤ sizeLine) (hS : s.heap.get? S = some { cls := .type "list", data := .seq #[] })
    (hR : ∀ h' tk acc c as, (∀ b o, b ≠ S → b ≠ z → b ≠ TO → b ≠ i1 → b ≠ i2 → s.heap.get? b = some o → h'.get? b = some o) → h'.get? S = some { cls := .type "list", dict := none, data := .seq acc c, slots := #[] } → as.length = min xs.size ys.size → ZGot h' B xs ys as →
      acc.toList = as.map Value.ref → R (.ok (.ret .none)) { s with heap := h', toks := tk }) :
    wpAny (model prog w) A.in1 (Builtin.«list.__init__» ⟨[.ref S, .ref z], []⟩)
      (fun fin s' => match fin with | .done f => R (.ok f) s' | .again c' => c'.quiet = true ∧ codeAny (model prog w) A c' R s') (fun e s' => R (.error e) s') s := by
  obtain ⟨bz, bTI, bTO, bi1, bi2, bl1, bl2⟩ : (z < B ∧ z ≠ S) ∧ (TI < B ∧ TI ≠ S) ∧ (TO < B ∧ TO ≠ S) ∧ (i1 < B ∧ i1 ≠ S) ∧ (i2 < B ∧ i2 ≠ S) ∧ (l1 < B ∧ l1 ≠ S) ∧ (l2 < B ∧ l2 ≠ S) :=
    ⟨bs _ (by simp), bs _ (by simp), bs _ (by simp), bs _ (by simp), bs _ (by simp), bs _ (by simp), bs _ (by simp)⟩
  show wpAny _ _ (do let old ← Builtin.List.listItems (.ref S); Builtin.List.listUpdate (.ref S) (fun _ => #[]); letGo old.toList.reverse; Builtin.List.listExtendWith (.ref S) (.ref z) .none) _ _ s
  refine wpAny_bind ?_
  unfold Builtin.List.listItems
  refine wpAny_bind (wpAny_seqItems hS rfl (wpAny_pure ?_))
  show wpAny _ _ (updateSeq S (fun _ => #[]) >>= fun _ => letGo (#[] : Array Value).toList.reverse >>= fun _ => Builtin.List.listExtendWith (.ref S) (.ref z) .none) _ _ s
  refine wpAny_bind (wpAny_updateSeq hS rfl ?_)
  have hS₂ := Heap.get?_update_self (Obj.mapSeq (fun _ => (#[] : Array Value))) hS rfl
  have oth : ∀ b o, b ≠ S → s.heap.get? b = some o → (s.heap.update S (Obj.mapSeq (fun _ => (#[] : Array Value)))).get? b = some o :=
    fun b o hb e => (Heap.get?_update_other _ _ (Ne.symm hb)).trans e
  refine wpAny_bind (wpAny_letGo ?_)
  refine zip_extend (B := B) hh D ⟨oth _ _ bz.2 Z.1, Z.2.keep oth hSB bTI.2 bTO.2 bi1.2 bi2.2 bl1.2 bl2.2 bz.2⟩ (by rw [Heap.size_update]; exact hB) bs hSB hn .none _ hS₂ (fun h' tk acc c as hk hS' hl hG hacc => ?_)
  exact hR h' tk acc c as (fun b o h1 h2 h3 h4 h5 e => hk b o h1 h2 h3 h4 h5 (oth b o h1 e)) hS' hl hG hacc

theorem zip_list {Q : Value → Shared → Prop} (hh : A.handled = none) (D : ZipApart z TI TO i1 i2 l1 l2) (hz : IsZip s.heap z TI TO .none) (hTI : IsPair s.heap TI (.ref i1) (.ref i2)) (hTO : ∃ a b, IsPair s.heap TO a b) (h1 : s.heap.IsListIter i1 l1 0) (h2 : s.heap.IsListIter i2 l2 0)
    (hl1 : s.heap.IsList l1 xs) (hl2 : s.heap.IsList l2 ys) (hn : min xs.size ys.size ≤ sizeLine)
    (hQ : ∀ h' tk acc c as, (∀ b o, b ≠ z → b ≠ TO → b ≠ i1 → b ≠ i2 → s.heap.get? b = some o → h'.get? b = some o) → h'.get? s.heap.objs.size = some { cls := .type "list", dict := none, data := .seq acc c, slots := #[] } → as.length = min xs.size ys.size → ZGot h' s.heap.objs.size xs ys as →
      acc.toList = as.map Value.ref → Q (.ref s.heap.objs.size) { s with heap := h', toks := tk }) :
    wpAny (model prog w) A (call (.type "list") [.ref z]) Q E s := by
  refine callType_codes (Q₁ := fun obj s₁ => obj = .ref s.heap.objs.size ∧ s₁ = { s with heap := s.heap.push { cls := .type "list", data := .seq #[] } }) PySem.F.called_list (PySem.F.typeCall_list_1 _) PySem.F.entry_list_init
    (code_list_new _ ⟨rfl, rfl⟩) fun obj s₁ h₁ => ?_
  obtain ⟨rfl, rfl⟩ := h₁
  have hS : (s.heap.push { cls := .type "list", data := .seq #[] }).get? s.heap.objs.size = some { cls := .type "list", data := .seq #[] } := Heap.get?_push_size _ rfl
  have pu : ∀ b o, s.heap.get? b = some o → (s.heap.push { cls := .type "list", data := .seq #[] }).get? b = some o := fun b o e => Heap.get?_push_of_some _ e
  obtain ⟨a, b, hTO⟩ := hTO
  have lt : ∀ {q o}, s.heap.get? q = some o → q < s.heap.objs.size + 1 ∧ q ≠ s.heap.objs.size := fun e => ⟨Nat.lt_succ_of_lt (Heap.lt_size e), Nat.ne_of_lt (Heap.lt_size e)⟩
  obtain ⟨_, g1, _⟩ := id h1
  obtain ⟨_, g2, _⟩ := id h2
  obtain ⟨_, g3, _⟩ := id hl1
  obtain ⟨_, g4, _⟩ := id hl2
  refine ⟨⟨_, hS, rfl⟩, PySem.F.args_list_init_2 _ _, zip_init (A := A.in1) (B := s.heap.objs.size + 1) (S := s.heap.objs.size) hh D ⟨pu _ _ hz, pu _ _ hTI, ⟨a, b, pu _ _ hTO⟩, h1.at fun o e => pu _ o e, h2.at fun o e => pu _ o e, hl1.at fun o e => pu _ o e, hl2.at fun o e => pu _ o e, .inl (pu _ _ hz)⟩
    (by rw [Heap.size_push]; exact Nat.le_refl _) (fun q hq => ?_) (Nat.lt_succ_self _) hn hS (fun h' tk acc c as hk hS' hl hG hacc => ?_)⟩
  · simp only [List.mem_cons, List.not_mem_nil, or_false] at hq
    rcases hq with rfl | rfl | rfl | rfl | rfl | rfl | rfl
    · exact lt hz
    · exact lt hTI
    · exact lt hTO
    · exact lt g1
    · exact lt g2
    · exact lt g3
    · exact lt g4
  · exact ⟨rfl, hQ h' tk acc c as (fun b o h1 h2 h3 h4 e => hk b o (Nat.ne_of_lt (Heap.lt_size e)) h1 h2 h3 h4 (pu _ _ e)) hS' hl (fun j a hj => let ⟨q, r⟩ := hG j a hj; ⟨Nat.le_of_succ_le q, r⟩) hacc⟩
end

/-- all that is new is turned no more -/
def znew (z : PH) (h h' : Heap) : PH := fun b => match z b with
  | some o => some o
  | none => if (h.get? b).isSome then none else h'.get? b
theorem znew_new {z : PH} {h h' : Heap} {b : Addr} {o : Obj} (hz : Le z h.get?) (e : h.get? b = none) (k : h'.get? b = some o) : znew z h h' b = some o := by
  unfold znew
  cases e2 : z b with
  | some o2 => have := hz _ _ e2; rw [e] at this; cases this
  | none => simp [e, k]
theorem RepW.znew {prog : Program} {w : World} {S : Shared} {env : Env} {σ : St} {p z : PH} {s : Shared} {m : Str → Option Value} {own : Str → Option Addr} {h' : Heap} {t : Nat} (R : RepW prog w S p z env σ s m own) (k : ∀ b o, s.heap.get? b = some o → h'.get? b = some o) :
    RepW prog w S p (znew z s.heap h') env σ { s with heap := h', toks := t } m own ∧ Grow p z (znew z s.heap h') := by
  have le : Le z (Mine.znew z s.heap h') := fun b o e => by unfold Mine.znew; rw [e]
  have old : ∀ b, (s.heap.get? b).isSome → z b = none → Mine.znew z s.heap h' b = none := fun b e q => by unfold Mine.znew; rw [q]; simp [e]
  have R1 := R.ext (t := t) k
  refine ⟨{ R1 with zk := fun b o e => ?_, lp := ⟨R.lp.1, old _ ?_ R.lp.2⟩, cp := fun x a e => ⟨(R.cp x a e).1, old _ ?_ (R.cp x a e).2.1, (R.cp x a e).2.2⟩, op := fun x a e => ?_, slots := fun x sl e => (R1.slots x sl e).keep le fun _ _ _ q => q }, le, fun b o e => ?_⟩
  · unfold Mine.znew at e
    cases q : z b with
    | some o2 => rw [q] at e; cases e; exact k _ _ (R.zk _ _ q)
    | none =>
      rw [q] at e
      simp only at e
      split at e
      · cases e
      · exact e
  · obtain ⟨ml, ⟨o, _, _, e, _⟩, _⟩ := R.loc; rw [e]; rfl
  · obtain ⟨o, e', _⟩ := R.cel x a e; rw [e']; rfl
  · obtain ⟨a1, a2, a3, a4, o, a5⟩ := R.op x a e
    exact ⟨a1, old _ (by rw [a5]; rfl) a2, a3, a4, o, k _ _ a5⟩
  · unfold Mine.znew at e
    cases q : z b with
    | some o2 => rw [q] at e; cases e; exact .inl rfl
    | none =>
      refine .inr ?_
      rw [q] at e
      simp only at e
      split at e
      · cases e
      · rename_i q2
        cases q3 : p b with
        | none => rfl
        | some o3 => exact absurd (by rw [R.pk _ _ q3]; rfl) q2

theorem RdAll.at {z : PH} : ∀ {vs : List Value} {ds : List PyData} {j : Nat} {v : Value}, RdAll z vs ds → vs[j]? = some v → ∃ d, ds[j]? = some d ∧ Rd z v d
  | _, _, 0, v, .cons e r, h => ⟨_, rfl, by simp at h; exact h ▸ e⟩
  | _, _, j + 1, v, .cons e r, h => by simpa using r.at (by simpa using h)
  | _, _, j, v, .nil, h => by simp at h
theorem RdAll.pairs {z : PH} {xs ys : List Value} : ∀ {as : List Addr} {ds es : List PyData}, RdAll z xs ds → RdAll z ys es → as.length = min xs.length ys.length →
    (∀ (j : Nat) (a : Addr), as[j]? = some a → ∃ x y, xs[j]? = some x ∧ ys[j]? = some y ∧ z a = some (TO [x, y] 0)) → RdAll z (as.map Value.ref) ((ds.zip es).map fun q => .tuple [q.1, q.2]) := by
  induction xs generalizing ys with
  | nil => intro as ds es r1 r2 hl _; cases r1; have : as = [] := (by simpa using hl); subst this; exact .nil
  | cons x xs ih =>
    intro as ds es r1 r2 hl h
    cases r1 with
    | cons e1 r1 =>
      cases r2 with
      | nil => have : as = [] := (by simpa using hl); subst this; exact .nil
      | cons e2 r2 =>
        cases as with
        | nil => simp at hl
        | cons a as =>
          obtain ⟨x', y', q1, q2, q3⟩ := h 0 a rfl
          simp at q1 q2
          subst q1 q2
          exact .cons (.tuple q3 (.cons e1 (.cons e2 .nil))) (ih r1 r2 (by simp at hl ⊢; omega) fun j b hj => by simpa using h (j + 1) b (by simpa using hj))

theorem EV_listzip {c : Cx} {σ : St} {x y : Str} {np yp pos' pos : Pos} {e1 e2 : Expr} {Q : PyData → St → Prop} (hl : BuiltAt c.S x (.type "list")) (hx : IsGlob c.env x = true) (hzp : BuiltAt c.S y (.type "zip")) (hy : IsGlob c.env y = true) (hh : c.A.handled = none)
    (h : EVs c [e1, e2] σ (fun ds σ' => ∃ as bs, ds = [.list as, .list bs] ∧ as.length ≤ 100000 ∧ Q (.list ((as.zip bs).map fun q => .tuple [q.1, q.2])) σ'))
    (he : starEach [e1, e2] c.env = (false, eval e1 c.env) :: starEach [e2] c.env := by rfl) (he' : (backTo pos' (starEach [e2] c.env)).any (·.1) = false := by rfl)
    (he₂ : starEach [Expr.Call (.Name y yp) [e1, e2] [] pos'] c.env = [(false, eval (.Call (.Name y yp) [e1, e2] [] pos') c.env)] := by rfl) : EV c (.Call (.Name x np) [.Call (.Name y yp) [e1, e2] [] pos'] [] pos) σ Q := by
  intro m p z s R
  refine wpAny_Call_NameR (ld_built R hx hl (callWith_type1 (spliced_more (wpAny_Call_NameR (ld_built R hy hzp (callWith_type1 (wpAny_mono (h pos' m p z s R) (fun vs s₁ q => ?_) fun _ _ q => q) he he'))) he₂) he₂))
  obtain ⟨z₁, ds, σ₁, g₁, ⟨own, R₁⟩, r, as, bs, rfl, hlen, q⟩ := q
  cases r with
  | cons r1 r =>
    cases r with
    | cons r2 r =>
      cases r
      cases r1 with
      | @list a1 xs n1 _ za r1 =>
        cases r2 with
        | @list a2 ys n2 _ zb r2 =>
          have hl1 : s₁.heap.IsList a1 xs.toArray := ⟨_, R₁.zk _ _ za, rfl, n1, rfl⟩
          have hl2 : s₁.heap.IsList a2 ys.toArray := ⟨_, R₁.zk _ _ zb, rfl, n2, rfl⟩
          have b1 := Heap.lt_size (R₁.zk _ _ za)
          have b2 := Heap.lt_size (R₁.zk _ _ zb)
          refine call_zip_2 hl1 hl2 fun h₂ f1 f2 f3 f4 f5 f6 f7 => spliced_none ?_
          have D : ZipApart (s₁.heap.objs.size + 4) (s₁.heap.objs.size + 2) (s₁.heap.objs.size + 3) s₁.heap.objs.size (s₁.heap.objs.size + 1) a1 a2 := by
            generalize s₁.heap.objs.size = k at b1 b2
            have b1 : (a1 : Nat) < k := b1
            have b2 : (a2 : Nat) < k := b2
            exact ⟨Nat.ne_of_lt (by omega), Nat.ne_of_lt (by omega), Nat.ne_of_lt (by omega), Nat.ne_of_lt (by omega), Nat.ne_of_lt (by omega), Nat.ne_of_gt (by omega), Nat.ne_of_gt (by omega), Nat.ne_of_gt (by omega), Nat.ne_of_gt (by omega), Nat.ne_of_lt (by omega),
              Nat.ne_of_lt (Nat.lt_of_lt_of_le b1 (Nat.le_add_right _ _)), Nat.ne_of_lt (Nat.lt_of_lt_of_le b1 (Nat.le_add_right _ _)), Nat.ne_of_lt b1, Nat.ne_of_lt (Nat.lt_of_lt_of_le b1 (Nat.le_add_right _ _)), Nat.ne_of_lt (Nat.lt_of_lt_of_le b2 (Nat.le_add_right _ _)), Nat.ne_of_lt (Nat.lt_of_lt_of_le b2 (Nat.le_add_right _ _)), Nat.ne_of_lt b2, Nat.ne_of_lt (Nat.lt_of_lt_of_le b2 (Nat.le_add_right _ _))⟩
          refine zip_list hh D f1 f2 ⟨_, _, f3⟩ f4 f5 (hl1.at fun o e => f7 _ o e) (hl2.at fun o e => f7 _ o e) (line_of ?_) fun h' tk acc k as' hk hS hal hG hacc => ?_
          · have := r1.length
            simp only [List.size_toArray]
            omega
          · have keep : ∀ b o, s₁.heap.get? b = some o → h'.get? b = some o := fun b o e => by
              have hb := Heap.lt_size e
              have hb : (b : Nat) < s₁.heap.objs.size := hb
              exact hk b o (Nat.ne_of_lt (Nat.lt_of_lt_of_le hb (Nat.le_add_right _ _))) (Nat.ne_of_lt (Nat.lt_of_lt_of_le hb (Nat.le_add_right _ _))) (Nat.ne_of_lt hb) (Nat.ne_of_lt (Nat.lt_of_lt_of_le hb (Nat.le_add_right _ _))) (f7 _ _ e)
            obtain ⟨R₂, g₂⟩ := RepW.znew (h' := h') (t := tk) R₁ keep
            have fresh : ∀ b, s₁.heap.objs.size ≤ b → s₁.heap.get? b = none := fun b hb => Heap.get?_none_of_le hb
            have hbig : s₁.heap.objs.size ≤ h₂.objs.size := by rw [f6]; exact Nat.le_add_right _ _
            have hacc' : acc = (as'.map Value.ref).toArray := by rw [← hacc]
            subst hacc'
            refine ⟨_, _, σ₁, g₁.trans g₂, ⟨own, R₂⟩, .list (znew_new R₁.zk (fresh _ hbig) hS) (RdAll.pairs (r1.mono g₂.1) (r2.mono g₂.1) (by simpa using hal) fun j a hj => ?_), q⟩
            obtain ⟨q1, x, y, q2, q3, q4⟩ := hG j a hj
            exact ⟨x, y, by simpa using q2, by simpa using q3, znew_new R₁.zk (fresh _ (Nat.le_trans hbig q1)) q4⟩
end
end

/-! # part P -/
section

def defAt (i : Nat) : List Stmt × Scope × Arguments := match PySem.Challenge.pw_pb0318_01.main.body[i]? with
  | some (.FunctionDef _ args body _ _ _ scope _ _ _) => (body, scope, args)
  | _ => ([], default, default)
abbrev fdOf (i : Nat) (name qual : Str) (doc pm : Value) (an : Option Addr) (cdv ct : Value) : FuncData := fnOf name qual (defAt i).2.2 (defAt i).1 (defAt i).2.1 .none .none doc pm an cdv ct

structure HasFn (S : Shared) (name : Str) (i : Nat) (f : Addr) : Prop where
  g : GlobAt S name (.ref f)
  fd : ∃ nm qual doc pm an cdv ct, FnAt S f (fdOf i nm qual doc pm an cdv ct)

/-- what stands at the law's call -/
structure Top0 (S : Shared) : Prop where
  lim : S.heap.NoLimit
  mods : ModsOk S
  len : BuiltAt S (Str.ofString "len") (.builtin "len")
  sorted : BuiltAt S (Str.ofString "sorted") (.builtin "sorted")
  range : BuiltAt S (Str.ofString "range") (.type "range")
  list : BuiltAt S (Str.ofString "list") (.type "list")
  zip : BuiltAt S (Str.ofString "zip") (.type "zip")
  endc : ∃ t, GlobAt S (Str.ofString "END_OF_COMMAND") (.int 9 t)

theorem fdOk1 {i : Nat} {x : Str} (h1 : (((defAt i).2.1.names.map (·.1)).Nodup ∧ ((defAt i).2.1.names.lookup x = some .local ∨ (defAt i).2.1.names.lookup x = some .cell) ∧ (defAt i).2.1.names.lookup tmp = none))
    (h2 : (defAt i).2.1.isCoroutine = false ∧ (defAt i).2.1.isGenerator = false ∧ (defAt i).2.1.kind = .function) {name qual : Str} {doc pm : Value} {an : Option Addr} {cdv ct : Value}
    (hb : ∀ a : Value, bindArgs (fdOf i name qual doc pm an cdv ct) ⟨[a], []⟩ = pure [(x, a)]) : FdOk (fdOf i name qual doc pm an cdv ct) [x] (defAt i).1 where
  body_ := rfl
  bind := fun vs h => by
    match vs, h with
    | [a], _ => exact hb a
  clo := rfl
  glob := rfl
  bui := rfl
  co := h2.1
  gen := h2.2.1
  kind := h2.2.2
  nd := h1.1
  xl := fun y hy => by rw [List.mem_singleton.mp hy]; exact h1.2.1
  xnd := by simp
  tm := h1.2.2
theorem fdOk2 {i : Nat} {x y : Str} (h1 : (((defAt i).2.1.names.map (·.1)).Nodup ∧ ((defAt i).2.1.names.lookup x = some .local ∨ (defAt i).2.1.names.lookup x = some .cell) ∧ ((defAt i).2.1.names.lookup y = some .local ∨ (defAt i).2.1.names.lookup y = some .cell) ∧ (defAt i).2.1.names.lookup tmp = none ∧ x ≠ y))
    (h2 : (defAt i).2.1.isCoroutine = false ∧ (defAt i).2.1.isGenerator = false ∧ (defAt i).2.1.kind = .function) {name qual : Str} {doc pm : Value} {an : Option Addr} {cdv ct : Value}
    (hb : ∀ a b : Value, bindArgs (fdOf i name qual doc pm an cdv ct) ⟨[a, b], []⟩ = pure [(x, a), (y, b)]) : FdOk (fdOf i name qual doc pm an cdv ct) [x, y] (defAt i).1 where
  body_ := rfl
  bind := fun vs h => by
    match vs, h with
    | [a, b], _ => exact hb a b
  clo := rfl
  glob := rfl
  bui := rfl
  co := h2.1
  gen := h2.2.1
  kind := h2.2.2
  nd := h1.1
  xl := fun q hq => by
    rcases List.mem_cons.mp hq with rfl | hq
    · exact h1.2.1
    · rw [List.mem_singleton.mp hq]; exact h1.2.2.1
  xnd := by simp [h1.2.2.2.2]
  tm := h1.2.2.2.1

/-! ### the machine's rows -/
structure Row where
  nm : Str
  cd : Str ⊕ Int
  o : Int
  k : Int
def Row.cdD (r : Row) : PyData := match r.cd with
  | .inl s => .str s
  | .inr i => .int i
def Row.d (r : Row) : PyData := .tuple [.str r.nm, r.cdD, .int r.o, .int r.k]
def Row.is (r : Row) (s : Str) : Bool := match r.cd with
  | .inl x => x == s
  | .inr _ => false
abbrev sB : Str := Str.ofString "B"
abbrev sBL : Str := Str.ofString "BL"
abbrev sBR : Str := Str.ofString "BR"
abbrev sAL : Str := Str.ofString "AL"
abbrev sNV : Str := Str.ofString "NV"
abbrev sTRAP : Str := Str.ofString "TRAP"
def Row.branch (r : Row) : Bool := r.nm == sB || r.nm == sBL
def Row.canJump (r : Row) : Bool := !r.is sNV
def Row.falls (r : Row) : Bool := if (r.nm == sB || r.nm == sBR) = true then !r.is sAL else if (r.nm == sTRAP && r.is sAL) = true then r.o == 0 && r.k != 9 else true
def Row.ends (r : Row) : Bool := r.nm == sB || (r.nm == sBR || !r.falls)

section
variable {c : Cx} {σ : St}
theorem C_eq_cd {r : Row} {s : Str} : BinR c (compareOp .Eq) r.cdD (.str s) (.bool (r.is s)) := by
  unfold Row.cdD Row.is
  cases r.cd with
  | inl x => exact C_eq_str
  | inr i => exact C_eq_int_str
theorem C_ne_cd {r : Row} {s : Str} : BinR c (compareOp .NotEq) r.cdD (.str s) (.bool (!r.is s)) := by
  unfold Row.cdD Row.is
  cases r.cd with
  | inl x => exact C_ne_str
  | inr i => exact C_ne_int_str
/-- a field of a row -/
theorem EV_fld {x : Str} {xp cp pos : Pos} {ck : Nat} {i : Int} {r : Row} {d : PyData} {Q : PyData → St → Prop} (hσ : σ.lookup x = some (.val r.d)) (hx : IsVar c.env x = true) (h0 : 0 ≤ i ∧ i < 4) (hd : [PyData.str r.nm, r.cdD, .int r.o, .int r.k][i.toNat]? = some d) (h : Q d σ) :
    EV c (.Subscript (.Name x xp) (.Constant (.int i) ck cp) pos) σ Q := by
  refine EV_item_tup ?_
  refine EV_name hσ hx ?_
  refine EV_int ?_
  exact ⟨_, _, _, rfl, rfl, h0.1, by omega, hd, h⟩
end

abbrev row_ : Str := Str.ofString "row"
abbrev rows_ : Str := Str.ofString "rows"
abbrev index_ : Str := Str.ofString "index"

section
variable {prog : Program} {w : World} {S : Shared}

set_option maxHeartbeats 2000000 in
theorem is_branch_spec (T : Top0 S) {f : Addr} (H : HasFn S (Str.ofString "is_branch") 2 f) (r : Row) : Fn prog w S f 1 [r.d] (fun d => d = .bool r.branch) := by
  obtain ⟨nm, qual, doc, pm, an, cdv, ct, fa⟩ := H.fd
  refine Fn_intro fa T.lim (fdOk1 (x := row_) (by decide +kernel) (by decide +kernel) (fun a => rfl)) rfl fun A L rm => ?_
  refine XS_cons (X_return (EV_bool_op (EBs_more ?_)))
  refine EV_cmp (EV_fld rfl rfl (by decide) rfl (EV_str ⟨_, C_eq_str, _, rfl, ?_⟩))
  cases h : r.nm == sB
  · refine EBs_one (EV_cmp (EV_fld rfl rfl (by decide) rfl (EV_str ⟨_, C_eq_str, ?_⟩)))
    show _ = _
    unfold Row.branch
    rw [h]; rfl
  · show _ = _
    unfold Row.branch
    rw [h]; rfl

set_option maxHeartbeats 2000000 in
theorem target_of_spec (T : Top0 S) {f : Addr} (H : HasFn S (Str.ofString "target_of") 3 f) (r : Row) (i : Int) : Fn prog w S f 1 [r.d, .int i] (fun d => d = .int (i + 1 + r.o)) := by
  obtain ⟨nm, qual, doc, pm, an, cdv, ct, fa⟩ := H.fd
  refine Fn_intro fa T.lim (fdOk2 (x := row_) (y := index_) (by decide +kernel) (by decide +kernel) (fun a b => rfl)) rfl fun A L rm => ?_
  refine XS_cons (X_return (EV_bin (EV_bin (EV_name rfl rfl (EV_int ⟨_, B_add, ?_⟩)))))
  exact EV_fld rfl rfl (by decide) rfl ⟨_, B_add, rfl⟩

set_option maxHeartbeats 2000000 in
theorem can_jump_spec (T : Top0 S) {f : Addr} (H : HasFn S (Str.ofString "can_jump") 5 f) (r : Row) : Fn prog w S f 1 [r.d] (fun d => d = .bool r.canJump) := by
  obtain ⟨nm, qual, doc, pm, an, cdv, ct, fa⟩ := H.fd
  refine Fn_intro fa T.lim (fdOk1 (x := row_) (by decide +kernel) (by decide +kernel) (fun a => rfl)) rfl fun A L rm => ?_
  exact XS_cons (X_return (EV_cmp (EV_fld rfl rfl (by decide) rfl (EV_str ⟨_, C_ne_cd, rfl⟩))))

set_option maxHeartbeats 4000000 in
theorem falls_spec (T : Top0 S) {f : Addr} (H : HasFn S (Str.ofString "falls_through") 4 f) (r : Row) : Fn prog w S f 1 [r.d] (fun d => d = .bool r.falls) := by
  obtain ⟨nm, qual, doc, pm, an, cdv, ct, fa⟩ := H.fd
  refine Fn_intro fa T.lim (fdOk1 (x := row_) (by decide +kernel) (by decide +kernel) (fun a => rfl)) rfl fun A L rm => ?_
  refine XS_cons (X_assign (EV_fld rfl rfl (by decide) rfl ?_) rfl)
  refine XS_cons (X_if (TV_bool (TVs_or (TV_cmp (EV_name rfl rfl (EV_str ⟨_, C_eq_str, ?_⟩))))))
  split <;> rename_i h1
  · exact XS_cons (X_return (EV_cmp (EV_fld rfl rfl (by decide) rfl (EV_str ⟨_, C_ne_cd, by show _ = _; simp [Row.falls, h1]⟩))))
  · refine TVs_or (TV_cmp (EV_name rfl rfl (EV_str ⟨_, C_eq_str, ?_⟩)))
    split <;> rename_i h2
    · exact XS_cons (X_return (EV_cmp (EV_fld rfl rfl (by decide) rfl (EV_str ⟨_, C_ne_cd, by show _ = _; simp [Row.falls, h2]⟩))))
    · refine TVs_nil (XS_nil ?_)
      refine XS_cons (X_if (TV_bool (TVs_and (TV_cmp (EV_name rfl rfl (EV_str ⟨_, C_eq_str, ?_⟩))))))
      split <;> rename_i h3
      · refine TVs_and (TV_cmp (EV_fld rfl rfl (by decide) rfl (EV_str ⟨_, C_eq_cd, ?_⟩)))
        split <;> rename_i h4
        · refine TVs_nil ?_
          refine XS_cons (X_return (EV_bool_op (EBs_more (EV_cmp (EV_fld rfl rfl (by decide) rfl (EV_int ⟨_, C_eq_int, _, rfl, ?_⟩))))))
          split <;> rename_i h5
          · obtain ⟨t, ht⟩ := T.endc
            refine EBs_one (EV_cmp (EV_fld rfl rfl (by decide) rfl (EV_glob_int ht rfl ⟨_, C_ne_int, ?_⟩)))
            show _ = _
            simp at h5
            simp [Row.falls, h1, h2, h3, h4, h5]
          · show _ = _
            simp at h5
            simp [Row.falls, h1, h2, h3, h4, h5]
        · refine XS_nil (XS_cons (X_return (EV_bool ?_)))
          show _ = _
          simp [Row.falls, h1, h2, h4]
      · refine XS_nil (XS_cons (X_return (EV_bool ?_)))
        show _ = _
        simp [Row.falls, h1, h2, h3]
end
end

/-! # part Q -/
section

/-! ### lists in order -/
def srt (l : List Int) : List Int := l.mergeSort (fun a b => decide (a ≤ b))
theorem srt_perm (l : List Int) : (srt l).Perm l := List.mergeSort_perm _ _
theorem srt_pw (l : List Int) : (srt l).Pairwise (· ≤ ·) := by
  have := List.pairwise_mergeSort (le := fun a b : Int => decide (a ≤ b)) (fun a b c h k => by simp at *; omega) (fun a b => by simp; omega) l
  exact this.imp fun h => by simpa using h
theorem srt_uniq {l ns : List Int} (h : ns.Perm l) (k : ns.Pairwise (· ≤ ·)) : ns = srt l :=
  List.Perm.eq_of_pairwise (fun a b _ _ h1 h2 => Int.le_antisymm h1 h2) k (srt_pw l) (h.trans (srt_perm l).symm)

section
variable {c : Cx} {σ : St}
def Sub : St → St → Prop
  | [], _ => True
  | q :: r, σ => σ.lookup q.1 = some q.2 ∧ Sub r σ
theorem Sub.lookup : ∀ {σm σ : St}, Sub σm σ → ∀ x sl, σm.lookup x = some sl → σ.lookup x = some sl
  | [], _, _, x, sl, h => by simp at h
  | q :: r, σ, ⟨h1, h2⟩, x, sl, h => by
    obtain ⟨k, v⟩ := q
    rw [List.lookup_cons] at h
    cases hb : x == k with
    | true => rw [hb] at h; cases h; rw [eq_of_beq hb]; exact h1
    | false => rw [hb] at h; exact h2.lookup x sl h
/-- a statement whose ways meet again -/
theorem XS_join {st : Stmt} {ss : List Stmt} {Q : Out → St → Prop} (σm : St) (h1 : X1 c st σ (fun o σ' => o = .next ∧ Sub σm σ')) (h2 : XS c ss σm Q) : XS c (st :: ss) σ Q :=
  XS_cons (X1.mono h1 fun o σ' ⟨e, hs⟩ => by subst e; exact XS.weak h2 hs.lookup)
theorem XS_weak {ss : List Stmt} {Q : Out → St → Prop} (σm : St) (hs : Sub σm σ) (h2 : XS c ss σm Q) : XS c ss σ Q := XS.weak h2 hs.lookup

abbrev rowsD (rs : List Row) : PyData := .list (rs.map Row.d)
theorem EV_row {x y : Str} {xp yp pos : Pos} {rs : List Row} {i : Nat} {r : Row} {Q : PyData → St → Prop} (h1 : σ.lookup x = some (.val (rowsD rs))) (hx : IsVar c.env x = true) (h2 : σ.lookup y = some (.val (.int i))) (hy : IsVar c.env y = true) (hr : rs[i]? = some r) (hn : rs.length ≤ 100)
    (h : Q r.d σ) : EV c (.Subscript (.Name x xp) (.Name y yp) pos) σ Q := by
  refine EV_item_list (EV_name h1 hx (EV_name h2 hy ⟨_, _, _, rfl, rfl, by omega, ?_, ?_, h⟩))
  · have := (List.getElem?_eq_some_iff.mp hr).1; omega
  · simp [hr]
end

/-! ### what the defs reckon -/
/-- the row behind, where control falls through -/
def fallL (r : Row) (n i : Nat) : List Int := if r.falls = true ∧ (i : Int) + 1 < n then [(i : Int) + 1] else []
def inside (t : Int) (n : Nat) : Bool := decide (0 ≤ t) && decide (t < n)
theorem inside_iff {t : Int} {n : Nat} : inside t n = true ↔ 0 ≤ t ∧ t < n := by simp [inside]
def tgt (r : Row) (i : Nat) : Int := (i : Int) + 1 + r.o
def succL (r : Row) (n i : Nat) : List Int :=
  if (r.nm == sB) = true ∧ r.canJump = true ∧ inside (tgt r i) n = true ∧ (fallL r n i).any (· == tgt r i) = false then fallL r n i ++ [tgt r i] else fallL r n i
def callL (r : Row) (n i : Nat) : List Int := if (r.nm == sBL) = true ∧ r.canJump = true ∧ inside (tgt r i) n = true then [tgt r i] else []

abbrev found_ : Str := Str.ofString "found"
abbrev target_ : Str := Str.ofString "target"

/-- the little defs -/
structure Fns0 (S : Shared) where
  f2 : Addr
  f3 : Addr
  f4 : Addr
  f5 : Addr
  h2 : HasFn S (Str.ofString "is_branch") 2 f2
  h3 : HasFn S (Str.ofString "target_of") 3 f3
  h4 : HasFn S (Str.ofString "falls_through") 4 f4
  h5 : HasFn S (Str.ofString "can_jump") 5 f5

section
variable {prog : Program} {w : World} {S : Shared} {c : Cx} {σ : St}
/-- a call of a def with one argument, of a bool -/
theorem TV_call {x y : Str} {np yp pos : Pos} {f : Addr} {i : Nat} {n : Nat} {d : PyData} {b : Bool} {Q : Bool → St → Prop} (H : HasFn c.S x i f) (F : Fn c.prog c.w c.S f n [d] (fun r => r = .bool b)) (rm : c.Room n) (hx : IsGlob c.env x = true) (hσ : σ.lookup y = some (.val d)) (hy : IsVar c.env y = true) (h : Q b σ) :
    TV c (.Call (.Name x np) [.Name y yp] [] pos) σ Q := by
  obtain ⟨nm, qual, doc, pm, an, cdv, ct, fa⟩ := H.fd
  exact TV_val (EV_call H.g fa rm hx (EVs_cons (EV_name hσ hy (EVs_nil ⟨_, F, fun r e => ⟨b, e, h⟩⟩))))
theorem EV_call1 {x y : Str} {np yp pos : Pos} {f : Addr} {i : Nat} {n : Nat} {d r : PyData} {Q : PyData → St → Prop} (H : HasFn c.S x i f) (F : Fn c.prog c.w c.S f n [d] (fun e => e = r)) (rm : c.Room n) (hx : IsGlob c.env x = true) (hσ : σ.lookup y = some (.val d)) (hy : IsVar c.env y = true) (h : Q r σ) :
    EV c (.Call (.Name x np) [.Name y yp] [] pos) σ Q := by
  obtain ⟨nm, qual, doc, pm, an, cdv, ct, fa⟩ := H.fd
  exact EV_call H.g fa rm hx (EVs_cons (EV_name hσ hy (EVs_nil ⟨_, F, fun r e => by rw [e]; exact h⟩)))
theorem EV_call2 {x y z : Str} {np yp zp pos : Pos} {f : Addr} {i : Nat} {n : Nat} {d e r : PyData} {Q : PyData → St → Prop} (H : HasFn c.S x i f) (F : Fn c.prog c.w c.S f n [d, e] (fun e => e = r)) (rm : c.Room n) (hx : IsGlob c.env x = true) (hσ : σ.lookup y = some (.val d)) (hy : IsVar c.env y = true) (hσ' : σ.lookup z = some (.val e)) (hz : IsVar c.env z = true) (h : Q r σ) :
    EV c (.Call (.Name x np) [.Name y yp, .Name z zp] [] pos) σ Q := by
  obtain ⟨nm, qual, doc, pm, an, cdv, ct, fa⟩ := H.fd
  exact EV_call H.g fa rm hx (EVs_cons (EV_name hσ hy (EVs_cons (EV_name hσ' hz (EVs_nil ⟨_, F, fun r e => by rw [e]; exact h⟩)))))
theorem Cx.Room.le {n k : Nat} (h : c.Room n) (hk : k ≤ n) : c.Room k := ⟨h.hh, by have := h.hd; omega, by have := h.hu; omega⟩

set_option maxHeartbeats 2000000 in
theorem ends_spec (T : Top0 S) (N : Fns0 S) {f : Addr} (H : HasFn S (Str.ofString "ends_block") 9 f) (r : Row) : Fn prog w S f 2 [r.d] (fun d => d = .bool r.ends) := by
  obtain ⟨nm, qual, doc, pm, an, cdv, ct, fa⟩ := H.fd
  refine Fn_intro fa T.lim (fdOk1 (x := row_) (by decide +kernel) (by decide +kernel) (fun a => rfl)) rfl fun A L rm => ?_
  refine XS_cons (X_return (EV_bool_op (EBs_more (EV_cmp (EV_fld rfl rfl (by decide) rfl (EV_str ⟨_, C_eq_str, _, rfl, ?_⟩))))))
  split <;> rename_i h1
  · refine EBs_more (EV_cmp (EV_fld rfl rfl (by decide) rfl (EV_str ⟨_, C_eq_str, _, rfl, ?_⟩)))
    split <;> rename_i h2
    · refine EBs_one (EV_not (EV_call1 N.h4 (falls_spec T N.h4 r) (rm.le (by decide)) rfl rfl rfl ⟨_, rfl, ?_⟩))
      show _ = _
      have h1 : (r.nm == sB) = false := eq_of_beq h1
      have h2 : (r.nm == sBR) = false := eq_of_beq h2
      simp [Row.ends, h1, h2]
    · show _ = _
      have h1 : (r.nm == sB) = false := eq_of_beq h1
      have h2 : (r.nm == sBR) = true := by
        cases e : r.nm == sBR
        · exact absurd (congrArg (· == (BoolOp.Or == BoolOp.And)) e) h2
        · rfl
      simp [Row.ends, h1, h2]
  · show _ = _
    have h1 : (r.nm == sB) = true := by
      cases e : r.nm == sB
      · exact absurd (congrArg (· == (BoolOp.Or == BoolOp.And)) e) h1
      · rfl
    simp [Row.ends, h1]

set_option maxHeartbeats 8000000 in
theorem successors_spec (T : Top0 S) (N : Fns0 S) {f : Addr} (H : HasFn S (Str.ofString "successors") 6 f) {rs : List Row} {i : Nat} {r : Row} (hr : rs[i]? = some r) (hn : rs.length ≤ 100) :
    Fn prog w S f 2 [rowsD rs, .int i] (fun d => d = .list ((srt (succL r rs.length i)).map .int)) := by
  obtain ⟨nm, qual, doc, pm, an, cdv, ct, fa⟩ := H.fd
  refine Fn_intro fa T.lim (fdOk2 (x := rows_) (y := index_) (by decide +kernel) (by decide +kernel) (fun a b => rfl)) rfl fun A L rm => ?_
  have hi : i < rs.length := (List.getElem?_eq_some_iff.mp hr).1
  refine XS_cons (X_assign (EV_row rfl rfl rfl rfl hr hn ?_) rfl)
  refine XS_cons (X_own (EF_list (EVs_nil ⟨by simp, rfl, ?_⟩)) rfl)
  refine XS_join [(found_, .lst ((fallL r rs.length i).map .int)), (row_, .val r.d), (rows_, .val (rowsD rs)), (index_, .val (.int i))] ?_ ?_
  · refine X_if (TV_bool (TVs_and (TV_call N.h4 (falls_spec T N.h4 r) (rm.le (by decide)) rfl rfl rfl ?_)))
    split <;> rename_i h1
    · refine TVs_and (TV_cmp (EV_bin (EV_name rfl rfl (EV_int ⟨_, B_add, EV_len T.len rfl (EAL_of_EV (EV_name rfl rfl ⟨_, rfl, by simp; omega, ⟨_, C_lt_int, ?_⟩⟩))⟩))))
      split <;> rename_i h2
      · refine TVs_nil ?_
        refine XS_cons (X_expr (EV_append (ds₀ := []) rfl rfl (EV_bin (EV_name rfl rfl (EV_int ⟨_, B_add, ?_⟩)))))
        refine ⟨_, rfl, by simp, XS_nil ⟨rfl, ?_, rfl, rfl, rfl, trivial⟩⟩
        simp at h2
        simp [fallL, h1, h2]
      · refine XS_nil ⟨rfl, ?_, rfl, rfl, rfl, trivial⟩
        simp at h2
        have : ¬ ((i : Int) + 1 < rs.length) := by omega
        simp [fallL, this]
    · refine XS_nil ⟨rfl, ?_, rfl, rfl, rfl, trivial⟩
      simp [fallL, h1]
  · refine XS_join [(found_, .lst ((succL r rs.length i).map .int))] ?_ ?_
    · refine X_if (TV_bool (TVs_and (TV_cmp (EV_fld rfl rfl (by decide) rfl (EV_str ⟨_, C_eq_str, ?_⟩)))))
      split <;> rename_i h1
      · refine TVs_and (TV_call N.h5 (can_jump_spec T N.h5 r) (rm.le (by decide)) rfl rfl rfl ?_)
        split <;> rename_i h2
        · refine TVs_nil ?_
          refine XS_cons (X_assign (EV_call2 N.h3 (target_of_spec T N.h3 r i) (rm.le (by decide)) rfl rfl rfl rfl rfl ?_) rfl)
          refine XS_cons (X_if (TV_bool (TVs_and (TV_cmp (EV_int (EV_name rfl rfl ⟨_, C_le_int, ?_⟩))))))
          split <;> rename_i h3
          · refine TVs_and (TV_cmp (EV_name rfl rfl (EV_len T.len rfl (EAL_of_EV (EV_name rfl rfl ⟨_, rfl, by simp; omega, ⟨_, C_lt_int, ?_⟩⟩)))))
            split <;> rename_i h4
            · refine TVs_and (TV_cmpJ (CmpJ_notin (EV_name rfl rfl ⟨_, rfl, EAL_own rfl rfl ⟨_, rfl, ?_⟩⟩)))
              split <;> rename_i h5
              · refine TVs_nil ?_
                refine XS_cons (X_expr (EV_append rfl rfl (EV_name rfl rfl ⟨_, rfl, ?_, XS_nil (XS_nil ⟨rfl, ?_, trivial⟩)⟩)))
                · unfold fallL; split <;> simp
                · have h3 := of_decide_eq_true h3
                  have h4 := of_decide_eq_true h4
                  simp only [List.length_map] at h4
                  simp only [Bool.not_eq_true'] at h5
                  have e : succL r rs.length i = fallL r rs.length i ++ [tgt r i] := by
                    unfold succL
                    rw [if_pos]
                    exact ⟨h1, h2, inside_iff.mpr ⟨h3, h4⟩, h5⟩
                  rw [e]
                  simp [tgt]
              · refine XS_nil (XS_nil ⟨rfl, ?_, trivial⟩)
                simp only [Bool.not_eq_true', Bool.not_eq_false] at h5
                have e : succL r rs.length i = fallL r rs.length i := by
                  unfold succL
                  rw [if_neg]
                  rintro ⟨_, _, _, q⟩
                  rw [show (fallL r rs.length i).any (· == tgt r i) = true from h5] at q
                  cases q
                rw [e]; rfl
            · refine XS_nil (XS_nil ⟨rfl, ?_, trivial⟩)
              have h4 : ¬ _ := fun q => h4 (decide_eq_true q)
              simp only [List.length_map] at h4
              have e : succL r rs.length i = fallL r rs.length i := by
                unfold succL
                rw [if_neg]
                rintro ⟨_, _, q, _⟩
                exact h4 (inside_iff.mp q).2
              rw [e]; rfl
          · refine XS_nil (XS_nil ⟨rfl, ?_, trivial⟩)
            have h3 : ¬ _ := fun q => h3 (decide_eq_true q)
            have e : succL r rs.length i = fallL r rs.length i := by
              unfold succL
              rw [if_neg]
              rintro ⟨_, _, q, _⟩
              exact h3 (inside_iff.mp q).1
            rw [e]; rfl
        · refine XS_nil ⟨rfl, ?_, trivial⟩
          have e : succL r rs.length i = fallL r rs.length i := by
            unfold succL
            rw [if_neg]
            rintro ⟨_, q, _⟩
            exact h2 q
          rw [e]; rfl
      · refine XS_nil ⟨rfl, ?_, trivial⟩
        have e : succL r rs.length i = fallL r rs.length i := by
          unfold succL
          rw [if_neg]
          rintro ⟨q, _⟩
          exact h1 q
        rw [e]; rfl
    · refine XS_cons (X_return (EV_of_EF (EF_sorted T.sorted rfl (EAL_own rfl rfl ⟨_, rfl, ?_, fun ns' hp hs => ⟨_, rfl, rfl, ?_⟩⟩))))
      · unfold succL fallL; split <;> split <;> simp
      · show _ = _
        rw [srt_uniq hp hs]

set_option maxHeartbeats 8000000 in
theorem called_spec (T : Top0 S) (N : Fns0 S) {f : Addr} (H : HasFn S (Str.ofString "called_rows") 7 f) {rs : List Row} {i : Nat} {r : Row} (hr : rs[i]? = some r) (hn : rs.length ≤ 100) :
    Fn prog w S f 2 [rowsD rs, .int i] (fun d => d = .list ((callL r rs.length i).map .int)) := by
  obtain ⟨nm, qual, doc, pm, an, cdv, ct, fa⟩ := H.fd
  refine Fn_intro fa T.lim (fdOk2 (x := rows_) (y := index_) (by decide +kernel) (by decide +kernel) (fun a b => rfl)) rfl fun A L rm => ?_
  have hi : i < rs.length := (List.getElem?_eq_some_iff.mp hr).1
  refine XS_cons (X_assign (EV_row rfl rfl rfl rfl hr hn ?_) rfl)
  refine XS_cons (X_if (TV_bool (TVs_and (TV_cmp (EV_fld rfl rfl (by decide) rfl (EV_str ⟨_, C_eq_str, ?_⟩))))))
  split <;> rename_i h1
  · refine TVs_and (TV_call N.h5 (can_jump_spec T N.h5 r) (rm.le (by decide)) rfl rfl rfl ?_)
    split <;> rename_i h2
    · refine TVs_nil ?_
      refine XS_cons (X_assign (EV_call2 N.h3 (target_of_spec T N.h3 r i) (rm.le (by decide)) rfl rfl rfl rfl rfl ?_) rfl)
      refine XS_cons (X_if (TV_bool (TVs_and (TV_cmp (EV_int (EV_name rfl rfl ⟨_, C_le_int, ?_⟩))))))
      split <;> rename_i h3
      · refine TVs_and (TV_cmp (EV_name rfl rfl (EV_len T.len rfl (EAL_of_EV (EV_name rfl rfl ⟨_, rfl, by simp; omega, ⟨_, C_lt_int, ?_⟩⟩)))))
        split <;> rename_i h4
        · refine TVs_nil (XS_cons (X_return (EV_of_EF (EF_list (EVs_cons (EV_name rfl rfl (EVs_nil ⟨by simp, _, rfl, rfl, ?_⟩)))))))
          show _ = _
          have h3 := of_decide_eq_true h3
          have h4 := of_decide_eq_true h4
          simp only [List.length_map] at h4
          unfold callL
          rw [if_pos ⟨h1, h2, inside_iff.mpr ⟨h3, h4⟩⟩]
          simp [tgt]
        · refine XS_nil (XS_nil (XS_cons (X_return (EV_of_EF (EF_list (EVs_nil ⟨by simp, _, rfl, rfl, ?_⟩))))))
          show _ = _
          have h4 : ¬ _ := fun q => h4 (decide_eq_true q)
          simp only [List.length_map] at h4
          unfold callL
          rw [if_neg]
          · rfl
          · rintro ⟨_, _, q⟩; exact h4 (inside_iff.mp q).2
      · refine XS_nil (XS_nil (XS_cons (X_return (EV_of_EF (EF_list (EVs_nil ⟨by simp, _, rfl, rfl, ?_⟩))))))
        show _ = _
        have h3 : ¬ _ := fun q => h3 (decide_eq_true q)
        unfold callL
        rw [if_neg]
        · rfl
        · rintro ⟨_, _, q⟩; exact h3 (inside_iff.mp q).1
    · refine XS_nil (XS_cons (X_return (EV_of_EF (EF_list (EVs_nil ⟨by simp, _, rfl, rfl, ?_⟩)))))
      show _ = _
      unfold callL
      rw [if_neg]
      · rfl
      · rintro ⟨_, q, _⟩; exact h2 q
  · refine XS_nil (XS_cons (X_return (EV_of_EF (EF_list (EVs_nil ⟨by simp, _, rfl, rfl, ?_⟩)))))
    show _ = _
    unfold callL
    rw [if_neg]
    · rfl
    · rintro ⟨q, _⟩; exact h1 q
end
end

/-! # part R -/
section

/-! ### sets of ints, laid out in order -/
def SL (P : Int → Prop) (ns : List Int) : Prop := ns.Pairwise (· < ·) ∧ ∀ x, x ∈ ns ↔ P x
theorem SL.uniq {P P' : Int → Prop} : ∀ {ns ms : List Int}, SL P ns → SL P' ms → (∀ x, P x ↔ P' x) → ns = ms
  | [], [], _, _, _ => rfl
  | [], b :: ms, h, k, e => by have := (h.2 b).mpr ((e b).mpr ((k.2 b).mp (by simp))); simp at this
  | a :: ns, [], h, k, e => by have := (k.2 a).mpr ((e a).mp ((h.2 a).mp (by simp))); simp at this
  | a :: ns, b :: ms, h, k, e => by
    have h1 := List.pairwise_cons.mp h.1
    have k1 := List.pairwise_cons.mp k.1
    have ha : a ∈ b :: ms := (k.2 a).mpr ((e a).mp ((h.2 a).mp (by simp)))
    have hb : b ∈ a :: ns := (h.2 b).mpr ((e b).mpr ((k.2 b).mp (by simp)))
    have hab : a = b := by
      rcases List.mem_cons.mp ha with q | q
      · exact q
      · rcases List.mem_cons.mp hb with q' | q'
        · exact q'.symm
        · have := h1.1 b q'; have := k1.1 a q; omega
    subst hab
    have : ns = ms := SL.uniq (P := fun x => x ∈ ns) (P' := fun x => x ∈ ms) ⟨h1.2, fun _ => Iff.rfl⟩ ⟨k1.2, fun _ => Iff.rfl⟩ fun x => by
      have q : x ∈ a :: ns ↔ x ∈ a :: ms := by rw [h.2, k.2, e]
      constructor
      · intro hx
        rcases List.mem_cons.mp (q.mp (List.mem_cons_of_mem _ hx)) with r | r
        · have := h1.1 x hx; omega
        · exact r
      · intro hx
        rcases List.mem_cons.mp (q.mpr (List.mem_cons_of_mem _ hx)) with r | r
        · have := k1.1 x hx; omega
        · exact r
    rw [this]
theorem pw_lt {ns : List Int} (h : ns.Pairwise (· ≤ ·)) (nd : ns.Nodup) : ns.Pairwise (· < ·) := by
  induction ns with
  | nil => exact .nil
  | cons a r ih =>
    have h1 := List.pairwise_cons.mp h
    have n1 := List.nodup_cons.mp nd
    refine List.pairwise_cons.mpr ⟨fun b hb => ?_, ih h1.2 n1.2⟩
    have := h1.1 b hb
    have : a ≠ b := fun q => n1.1 (q ▸ hb)
    omega
theorem SL.of_perm {P : Int → Prop} {ns ks : List Int} (hp : ns.Perm ks) (hs : ns.Pairwise (· ≤ ·)) (nd : ks.Nodup) (h : ∀ x, x ∈ ks ↔ P x) : SL P ns :=
  ⟨pw_lt hs (hp.nodup_iff.mpr nd), fun x => (hp.mem_iff).trans (h x)⟩
theorem nodup_len {l m : List Int} (nd : l.Nodup) (h : ∀ x ∈ l, x ∈ m) : l.length ≤ m.length := by
  induction l generalizing m with
  | nil => simp
  | cons a r ih =>
    have n1 := List.nodup_cons.mp nd
    have ha : a ∈ m := h a (by simp)
    have := ih (m := m.erase a) n1.2 fun x hx => (List.mem_erase_of_ne (show x ≠ a from fun q => n1.1 (q ▸ hx))).mpr (h x (List.mem_cons_of_mem _ hx))
    rw [List.length_erase_of_mem ha] at this
    have := List.length_pos_of_mem ha
    simp; omega
theorem nodup_in {l : List Int} {n : Nat} (nd : l.Nodup) (h : ∀ x ∈ l, 0 ≤ x ∧ x < n) : l.length ≤ n := by
  have := nodup_len (m := (List.range n).map fun (i : Nat) => (i : Int)) nd fun x hx => by
    have := h x hx
    exact List.mem_map.mpr ⟨x.toNat, List.mem_range.mpr (by omega), by omega⟩
  simpa using this

/-- the keys of a dict -/
def DK (P : Int → Prop) (kvs : List (Int × PyData)) : Prop := (kvs.map (·.1)).Nodup ∧ ∀ x, x ∈ kvs.map (·.1) ↔ P x
theorem DK.nil {P : Int → Prop} (h : ∀ x, ¬ P x) : DK P [] := ⟨by simp, fun x => by simp [h x]⟩
theorem DK.congr {P P' : Int → Prop} {kvs : List (Int × PyData)} (h : DK P kvs) (e : ∀ x, P x ↔ P' x) : DK P' kvs := ⟨h.1, fun x => (h.2 x).trans (e x)⟩
theorem any_key {kvs : List (Int × PyData)} {k : Int} : kvs.any (fun kv => kv.1 = k) = true ↔ k ∈ kvs.map (·.1) := by
  simp only [List.any_eq_true, decide_eq_true_eq, List.mem_map]
theorem stored_keys (kvs : List (Int × PyData)) (k : Int) (v : PyData) : (storedD kvs k v).map (·.1) = if k ∈ kvs.map (·.1) then kvs.map (·.1) else kvs.map (·.1) ++ [k] := by
  unfold storedD
  by_cases h : kvs.any (fun kv => kv.1 = k) = true
  · rw [if_pos h, if_pos (any_key.mp h), List.map_map]
    refine List.map_congr_left fun q _ => ?_
    simp only [Function.comp]
    split <;> rfl
  · rw [if_neg h, if_neg (fun q => h (any_key.mpr q))]
    simp
theorem DK.stored {P P' : Int → Prop} {kvs : List (Int × PyData)} {k : Int} {v : PyData} (h : DK P kvs) (e : ∀ x, P' x ↔ (P x ∨ x = k)) : DK P' (storedD kvs k v) := by
  unfold DK
  rw [stored_keys]
  split
  · rename_i hk
    refine ⟨h.1, fun x => ?_⟩
    rw [e, h.2]
    constructor
    · exact .inl
    · rintro (q | q)
      · exact q
      · exact q ▸ (h.2 k).mp hk
  · rename_i hk
    refine ⟨?_, fun x => ?_⟩
    · rw [List.nodup_append]
      exact ⟨h.1, by simp, fun a ha b hb => by simp at hb; subst hb; exact fun q => hk (q ▸ ha)⟩
    · rw [e, List.mem_append, h.2, List.mem_singleton]
theorem DK.sl {P : Int → Prop} {kvs : List (Int × PyData)} {ns : List Int} (h : DK P kvs) (hp : ns.Perm (kvs.map (·.1))) (hs : ns.Pairwise (· ≤ ·)) : SL P ns := SL.of_perm hp hs h.1 h.2

/-! ### loops by the place -/
section
variable {c : Cx} {σ : St}
theorem X_for_at {target iter : Expr} {body : List Stmt} {pos : Pos} {ds : List PyData} {Q : Out → St → Prop} (hh : c.A.handled = none) (Inv : Nat → St → Prop)
    (h : EV c iter σ (fun d σ₁ => d = .list ds ∧ Inv 0 σ₁))
    (turn : ∀ k d σ, ds[k]? = some d → Inv k σ → AS c target d σ (fun σ' => XS c body σ' (fun o σ'' => match o with | .next | .cont => Inv (k + 1) σ'' | .brk => Q .next σ'' | o => Q o σ'')))
    (done : ∀ σ, Inv ds.length σ → Q .next σ)
    (ht : (∀ it v, letOwnedTupleGo target it v = pure ()) ∨ ∃ elts k tp, target = .Tuple elts k tp)
    (hs : ∀ x, foldedSetIterable iter c.env x = pure x := by intro _; rfl) : X1 c (.For target iter body [] pos) σ Q := by
  refine X_for hh (fun rest σ => ∃ k, k ≤ ds.length ∧ rest = ds.drop k ∧ Inv k σ) (EV.mono h fun d σ' ⟨e, i⟩ => ⟨ds, e, 0, Nat.zero_le _, rfl, i⟩) ?_ ?_ ht hs
  · rintro d rest σ ⟨k, hk, e, i⟩
    have hlt : k < ds.length := by
      rcases Nat.lt_or_ge k ds.length with q | q
      · exact q
      · rw [List.drop_eq_nil_of_le q] at e; cases e
    rw [List.drop_eq_getElem_cons hlt] at e
    cases e
    intro p z s v R r
    refine wpAny_mono (turn k _ σ (List.getElem?_eq_getElem hlt) i p z s v R r) (fun _ s' q => ?_) fun _ _ x => x
    obtain ⟨z', σ', g, R', q⟩ := q
    refine ⟨z', σ', g, R', XS.mono q fun o σ'' q => ?_⟩
    cases o with
    | next => exact ⟨k + 1, hlt, rfl, q⟩
    | cont => exact ⟨k + 1, hlt, rfl, q⟩
    | brk => exact q
    | ret _ => exact q
    | fresh _ => exact q
  · rintro σ ⟨k, hk, e, i⟩
    have : k = ds.length := by
      rcases Nat.lt_or_ge k ds.length with q | q
      · rw [List.drop_eq_getElem_cons q] at e; cases e
      · omega
    subst this
    exact done σ i
theorem X_for_count {x rn : Str} {xp rp cp pos : Pos} {e : Expr} {body : List Stmt} {n : Nat} {Q : Out → St → Prop} (hh : c.A.handled = none) (hb : BuiltAt c.S rn (.type "range")) (hx : IsGlob c.env rn = true) (Inv : Nat → St → Prop) (hv : IsVar c.env x = true) (hn : n < 100000)
    (h : EV c e σ (fun d σ₁ => ∃ j : Int, d = .int j ∧ -100 < j ∧ j.toNat = n ∧ Inv 0 σ₁))
    (turn : ∀ k σ, k < n → Inv k σ → XS c body ((x, .val (.int k)) :: σ) (fun o σ'' => match o with | .next | .cont => Inv (k + 1) σ'' | .brk => Q .next σ'' | o => Q o σ''))
    (done : ∀ σ, Inv n σ → Q .next σ) (he : starEach [e] c.env = [(false, eval e c.env)] := by rfl)
    (hs : ∀ x, foldedSetIterable (.Call (.Name rn rp) [e] [] cp) c.env x = pure x := by intro _; rfl) : X1 c (.For (.Name x xp) (.Call (.Name rn rp) [e] [] cp) body [] pos) σ Q := by
  refine X_for_range hh hb hx (fun rest σ => ∃ k, k ≤ n ∧ rest = ((List.range n).map fun (i : Nat) => PyData.int i).drop k ∧ Inv k σ) hv (EV.mono h fun d σ' ⟨j, e, hj, hjn, i⟩ => ⟨j, e, hj, by omega, 0, Nat.zero_le _, by rw [hjn]; rfl, i⟩) ?_ ?_ he hs
  · rintro d rest σ ⟨k, hk, e, i⟩
    have hlt : k < ((List.range n).map fun (i : Nat) => PyData.int i).length := by
      rcases Nat.lt_or_ge k ((List.range n).map fun (i : Nat) => PyData.int i).length with q | q
      · exact q
      · rw [List.drop_eq_nil_of_le q] at e; cases e
    rw [List.drop_eq_getElem_cons hlt] at e
    cases e
    have hlt' : k < n := by simpa using hlt
    have q := turn k σ hlt' i
    rw [List.getElem_map, List.getElem_range]
    refine XS.mono q fun o σ'' q => ?_
    cases o with
    | next => exact ⟨k + 1, hlt', rfl, q⟩
    | cont => exact ⟨k + 1, hlt', rfl, q⟩
    | brk => exact q
    | ret _ => exact q
    | fresh _ => exact q
  · rintro σ ⟨k, hk, e, i⟩
    have : k = n := by
      rcases Nat.lt_or_ge k n with q | q
      · rw [List.drop_eq_getElem_cons (by simpa using q)] at e; cases e
      · omega
    subst this
    exact done σ i
end

structure Fns1 (S : Shared) extends Fns0 S where
  f6 : Addr
  f7 : Addr
  f9 : Addr
  h6 : HasFn S (Str.ofString "successors") 6 f6
  h7 : HasFn S (Str.ofString "called_rows") 7 f7
  h9 : HasFn S (Str.ofString "ends_block") 9 f9

/-! ### targets -/
def jumpT (r : Row) (n i : Nat) (x : Int) : Prop := r.branch = true ∧ r.canJump = true ∧ inside (tgt r i) n = true ∧ x = tgt r i
def TgtK (rs : List Row) (extra : List Int) (k : Nat) (x : Int) : Prop := x ∈ extra ∨ ∃ i r, i < k ∧ rs[i]? = some r ∧ jumpT r rs.length i x
theorem TgtK.succ {rs : List Row} {extra : List Int} {k : Nat} {r : Row} (hr : rs[k]? = some r) (x : Int) : TgtK rs extra (k + 1) x ↔ TgtK rs extra k x ∨ jumpT r rs.length k x := by
  unfold TgtK
  constructor
  · rintro (h | ⟨i, r', h1, h2, h3⟩)
    · exact .inl (.inl h)
    · rcases Nat.lt_or_ge i k with q | q
      · exact .inl (.inr ⟨i, r', q, h2, h3⟩)
      · have : i = k := by omega
        subst this
        rw [hr] at h2; cases h2
        exact .inr h3
  · rintro ((h | ⟨i, r', h1, h2, h3⟩) | h)
    · exact .inl h
    · exact .inr ⟨i, r', by omega, h2, h3⟩
    · exact .inr ⟨k, r, by omega, hr, h⟩
abbrev extra_ : Str := Str.ofString "extra"
abbrev start_ : Str := Str.ofString "start"

section
variable {prog : Program} {w : World} {S : Shared} {c : Cx} {σ : St}
set_option maxHeartbeats 8000000 in
theorem targets_spec (T : Top0 S) (N : Fns0 S) {f : Addr} (H : HasFn S (Str.ofString "targets") 8 f) {rs : List Row} {extra : List Int} (hn : rs.length + extra.length ≤ 40) :
    Fn prog w S f 2 [rowsD rs, .list (extra.map .int)] (fun d => ∃ ns, d = .list (ns.map .int) ∧ SL (TgtK rs extra rs.length) ns) := by
  obtain ⟨nm, qual, doc, pm, an, cdv, ct, fa⟩ := H.fd
  refine Fn_intro fa T.lim (fdOk2 (x := rows_) (y := extra_) (by decide +kernel) (by decide +kernel) (fun a b => rfl)) rfl fun A L rm => ?_
  refine XS_cons (X_own (EF_dict T.mods ?_) rfl)
  refine ⟨rfl, ?_⟩
  refine XS_cons (X_for_at (ds := extra.map .int) rm.hh (fun k σ => ∃ kvs, Sub [(found_, .dct kvs), (rows_, .val (rowsD rs)), (extra_, .val (.list (extra.map .int)))] σ ∧ DK (· ∈ extra.take k) kvs ∧ kvs.length ≤ k) (EV_name rfl rfl ⟨rfl, [], ⟨rfl, rfl, rfl, trivial⟩, DK.nil (by simp), by simp⟩) ?_ ?_ (.inl (by intro _ _; rfl)))
  · rintro k d σ hk ⟨kvs, hs, hd, hl⟩
    refine AS_name rfl ?_
    rw [List.getElem?_map] at hk
    obtain ⟨v, hv, rfl⟩ := Option.map_eq_some_iff.mp hk
    have hkl := (List.getElem?_eq_some_iff.mp hv).1
    refine XS_weak [(start_, .val (.int v)), (found_, .dct kvs), (rows_, .val (rowsD rs)), (extra_, .val (.list (extra.map .int)))] ⟨rfl, hs.1, hs.2.1, hs.2.2.1, trivial⟩ ?_
    refine XS_cons (X_setdict (kvs₀ := []) (EV_bool ⟨_, rfl, EV_name rfl rfl ⟨_, _, rfl, rfl, by omega, ?_⟩⟩) rfl)
    have hl' := storedD_len kvs v (.bool true)
    refine XS_nil ⟨_, ⟨rfl, rfl, rfl, trivial⟩, hd.stored fun x => ?_, by omega⟩
    rw [List.take_add_one, hv]
    simp
  · rintro σ ⟨kvs, hs, hd, hl⟩
    rw [List.length_map] at hd hl
    rw [List.take_length] at hd
    show XS _ _ _ _
    refine XS_weak [(found_, .dct kvs), (rows_, .val (rowsD rs))] ⟨hs.1, hs.2.1, trivial⟩ ?_
    refine XS_cons (X_for_count (n := rs.length) rm.hh T.range rfl (fun k σ => ∃ kvs, Sub [(found_, .dct kvs), (rows_, .val (rowsD rs))] σ ∧ DK (TgtK rs extra k) kvs ∧ kvs.length ≤ extra.length + k) rfl (by omega)
      (EV_len T.len rfl (EAL_of_EV (EV_name rfl rfl ⟨_, rfl, by simp; omega, _, rfl, by omega, by simp, kvs, ⟨rfl, rfl, trivial⟩, hd.congr fun x => ⟨.inl, fun h => h.elim id fun ⟨i, r, h, _⟩ => absurd h (by omega)⟩, by omega⟩))) ?_ ?_)
    · rintro k σ hk ⟨kvs, hs, hd, hl⟩
      refine XS_weak [(index_, .val (.int k)), (found_, .dct kvs), (rows_, .val (rowsD rs))] ⟨rfl, hs.1, hs.2.1, trivial⟩ ?_
      have hr : rs[k]? = some rs[k] := List.getElem?_eq_getElem hk
      generalize rs[k] = r at hr
      refine XS_cons (X_assign (EV_row rfl rfl rfl rfl hr (by omega) ?_) rfl)
      have no : ¬ (∃ x, jumpT r rs.length k x) → DK (TgtK rs extra (k + 1)) kvs := fun q => hd.congr fun x => by
        rw [TgtK.succ hr]; exact ⟨.inl, fun h => h.elim id fun h => absurd ⟨x, h⟩ q⟩
      refine XS_cons (X_if (TV_bool (TVs_and (TV_call N.h2 (is_branch_spec T N.h2 r) (rm.le (by decide)) rfl rfl rfl ?_))))
      split <;> rename_i h1
      · refine TVs_and (TV_call N.h5 (can_jump_spec T N.h5 r) (rm.le (by decide)) rfl rfl rfl ?_)
        split <;> rename_i h2
        · refine TVs_nil ?_
          refine XS_cons (X_assign (EV_call2 N.h3 (target_of_spec T N.h3 r k) (rm.le (by decide)) rfl rfl rfl rfl rfl ?_) rfl)
          refine XS_cons (X_if (TV_bool (TVs_and (TV_cmp (EV_int (EV_name rfl rfl ⟨_, C_le_int, ?_⟩))))))
          split <;> rename_i h3
          · refine TVs_and (TV_cmp (EV_name rfl rfl (EV_len T.len rfl (EAL_of_EV (EV_name rfl rfl ⟨_, rfl, by simp; omega, ⟨_, C_lt_int, ?_⟩⟩)))))
            split <;> rename_i h4
            · refine TVs_nil (XS_cons (X_setdict (kvs₀ := []) (EV_bool ⟨_, rfl, EV_name rfl rfl ⟨_, _, rfl, rfl, by omega, ?_⟩⟩) rfl))
              have hl' := storedD_len kvs ((k : Int) + 1 + r.o) (.bool true)
              refine XS_nil (XS_nil (XS_nil ⟨_, ⟨rfl, rfl, trivial⟩, ?_, by omega⟩))
              have h3 := of_decide_eq_true h3
              have h4 := of_decide_eq_true h4
              simp only [List.length_map] at h4
              refine hd.stored (k := tgt r k) fun x => ?_
              rw [TgtK.succ hr]
              unfold jumpT
              simp only [h1, h2, inside_iff, true_and]
              unfold tgt
              constructor
              · rintro (q | q)
                · exact .inl q
                · exact .inr q.2
              · rintro (q | q)
                · exact .inl q
                · exact .inr ⟨⟨h3, h4⟩, q⟩
            · refine XS_nil (XS_nil (XS_nil ⟨_, ⟨rfl, rfl, trivial⟩, no ?_, by omega⟩))
              have h4 : ¬ _ := fun q => h4 (decide_eq_true q)
              simp only [List.length_map] at h4
              rintro ⟨x, _, _, q, _⟩
              exact h4 (inside_iff.mp q).2
          · refine XS_nil (XS_nil (XS_nil ⟨_, ⟨rfl, rfl, trivial⟩, no ?_, by omega⟩))
            have h3 : ¬ _ := fun q => h3 (decide_eq_true q)
            rintro ⟨x, _, _, q, _⟩
            exact h3 (inside_iff.mp q).1
        · refine XS_nil (XS_nil ⟨_, ⟨rfl, rfl, trivial⟩, no ?_, by omega⟩)
          rintro ⟨x, _, q, _⟩
          exact h2 q
      · refine XS_nil (XS_nil ⟨_, ⟨rfl, rfl, trivial⟩, no ?_, by omega⟩)
        rintro ⟨x, q, _⟩
        exact h1 q
    · rintro σ ⟨kvs, hs, hd, hl⟩
      show XS _ _ _ _
      refine XS_weak [(found_, .dct kvs)] ⟨hs.1, trivial⟩ ?_
      exact XS_cons (X_return (EV_of_EF (EF_sorted_dict T.sorted rfl T.mods rm.hh rfl rfl (by omega) fun ns hp hq => ⟨_, rfl, rfl, ns, rfl, hd.sl hp hq⟩)))
end
end

/-! # part S -/
section

structure Fns2 (S : Shared) extends Fns1 S where
  f8 : Addr
  h8 : HasFn S (Str.ofString "targets") 8 f8

section
variable {c : Cx} {σ : St}
theorem EV_call2P {x y z : Str} {np yp zp pos : Pos} {f : Addr} {i : Nat} {n : Nat} {d e : PyData} {post : PyData → Prop} {Q : PyData → St → Prop} (H : HasFn c.S x i f) (F : Fn c.prog c.w c.S f n [d, e] post) (rm : c.Room n) (hx : IsGlob c.env x = true) (hσ : σ.lookup y = some (.val d)) (hy : IsVar c.env y = true) (hσ' : σ.lookup z = some (.val e)) (hz : IsVar c.env z = true) (h : ∀ r, post r → Q r σ) :
    EV c (.Call (.Name x np) [.Name y yp, .Name z zp] [] pos) σ Q := by
  obtain ⟨nm, qual, doc, pm, an, cdv, ct, fa⟩ := H.fd
  exact EV_call H.g fa rm hx (EVs_cons (EV_name hσ hy (EVs_cons (EV_name hσ' hz (EVs_nil ⟨_, F, h⟩)))))
theorem TV_call1E {x : Str} {np pos : Pos} {f : Addr} {i : Nat} {n : Nat} {d : PyData} {b : Bool} {e : Expr} {Q : Bool → St → Prop} (H : HasFn c.S x i f) (F : Fn c.prog c.w c.S f n [d] (fun r => r = .bool b)) (rm : c.Room n) (hx : IsGlob c.env x = true)
    (h : EV c e σ (fun a σ' => a = d ∧ Q b σ')) (he : starEach [e] c.env = [(false, eval e c.env)] := by rfl) : TV c (.Call (.Name x np) [e] [] pos) σ Q := by
  obtain ⟨nm, qual, doc, pm, an, cdv, ct, fa⟩ := H.fd
  exact TV_val (EV_call H.g fa rm hx (EVs_cons (EV.mono h fun a σ' ⟨ea, q⟩ => EVs_nil ⟨_, (by rw [ea]; exact F), fun r e => ⟨b, e, q⟩⟩) he) he)
theorem X_for_any {target iter : Expr} {body : List Stmt} {pos : Pos} {Q : Out → St → Prop} (hh : c.A.handled = none) (Inv : List PyData → Nat → St → Prop)
    (h : EV c iter σ (fun d σ₁ => ∃ ds, d = .list ds ∧ Inv ds 0 σ₁))
    (turn : ∀ ds k d σ, ds[k]? = some d → Inv ds k σ → AS c target d σ (fun σ' => XS c body σ' (fun o σ'' => match o with | .next | .cont => Inv ds (k + 1) σ'' | .brk => Q .next σ'' | o => Q o σ'')))
    (done : ∀ ds σ, Inv ds ds.length σ → Q .next σ)
    (ht : (∀ it v, letOwnedTupleGo target it v = pure ()) ∨ ∃ elts k tp, target = .Tuple elts k tp)
    (hs : ∀ x, foldedSetIterable iter c.env x = pure x := by intro _; rfl) : X1 c (.For target iter body [] pos) σ Q := by
  refine X_for hh (fun rest σ => ∃ ds k, k ≤ ds.length ∧ rest = ds.drop k ∧ Inv ds k σ) (EV.mono h fun d σ' ⟨ds, e, i⟩ => ⟨ds, e, ds, 0, Nat.zero_le _, rfl, i⟩) ?_ ?_ ht hs
  · rintro d rest σ ⟨ds, k, hk, e, i⟩
    have hlt : k < ds.length := by
      rcases Nat.lt_or_ge k ds.length with q | q
      · exact q
      · rw [List.drop_eq_nil_of_le q] at e; cases e
    rw [List.drop_eq_getElem_cons hlt] at e
    cases e
    intro p z s v R r
    refine wpAny_mono (turn ds k _ σ (List.getElem?_eq_getElem hlt) i p z s v R r) (fun _ s' q => ?_) fun _ _ x => x
    obtain ⟨z', σ', g, R', q⟩ := q
    refine ⟨z', σ', g, R', XS.mono q fun o σ'' q => ?_⟩
    cases o with
    | next => exact ⟨ds, k + 1, hlt, rfl, q⟩
    | cont => exact ⟨ds, k + 1, hlt, rfl, q⟩
    | brk => exact q
    | ret _ => exact q
    | fresh _ => exact q
  · rintro σ ⟨ds, k, hk, e, i⟩
    have : k = ds.length := by
      rcases Nat.lt_or_ge k ds.length with q | q
      · rw [List.drop_eq_getElem_cons q] at e; cases e
      · omega
    subst this
    exact done ds σ i
/-- the second argument of any form -/
theorem EV_call2E {x y : Str} {np yp pos : Pos} {f : Addr} {i : Nat} {n : Nat} {d : PyData} {e : Expr} {Q : PyData → St → Prop} (H : HasFn c.S x i f) (rm : c.Room n) (hx : IsGlob c.env x = true) (hσ : σ.lookup y = some (.val d)) (hy : IsVar c.env y = true)
    (h : EV c e σ (fun a σ' => ∃ post, Fn c.prog c.w c.S f n [d, a] post ∧ ∀ r, post r → Q r σ')) (he : starEach [Expr.Name y yp, e] c.env = (false, eval (.Name y yp) c.env) :: starEach [e] c.env := by rfl) (he' : starEach [e] c.env = [(false, eval e c.env)] := by rfl) :
    EV c (.Call (.Name x np) [.Name y yp, e] [] pos) σ Q := by
  obtain ⟨nm, qual, doc, pm, an, cdv, ct, fa⟩ := H.fd
  exact EV_call H.g fa rm hx (EVs_cons (EV_name hσ hy (EVs_cons (EV.mono h fun a σ' ⟨post, F, q⟩ => EVs_nil ⟨post, F, q⟩) he')) he) he
end

abbrev pairD (q : Int × Int) : PyData := .tuple [.int q.1, .int q.2]
def partsL (ss : List Int) (n : Nat) : List (Int × Int) := ss.zip (ss.drop 1 ++ [(n : Int)])
theorem partsL_len (ss : List Int) (n : Nat) : (partsL ss n).length = ss.length := by unfold partsL; simp; omega
theorem partsL_last {ss : List Int} {n k : Nat} {a : Int} (h : ss[k]? = some a) (hk : k + 1 = ss.length) : (partsL ss n)[k]? = some (a, (n : Int)) := by
  unfold partsL
  rw [List.getElem?_zip_eq_some]
  refine ⟨h, ?_⟩
  rw [List.getElem?_append_right (by simp; omega)]
  have : k - (ss.drop 1).length = 0 := by simp; omega
  rw [this]; rfl
theorem partsL_mid {ss : List Int} {n k : Nat} {a b : Int} (h : ss[k]? = some a) (hk : ss[k + 1]? = some b) : (partsL ss n)[k]? = some (a, b) := by
  unfold partsL
  rw [List.getElem?_zip_eq_some]
  refine ⟨h, ?_⟩
  have := (List.getElem?_eq_some_iff.mp hk).1
  rw [List.getElem?_append_left (by simp; omega), List.getElem?_drop, Nat.add_comm]
  exact hk

def LeadP (rs : List Row) (extra : List Int) (x : Int) : Prop := (x = 0 ∧ 0 < rs.length) ∨ (TgtK rs extra rs.length x ∧ x < rs.length) ∨ ∃ i r, i + 1 < rs.length ∧ rs[i]? = some r ∧ r.ends = true ∧ x = (i : Int) + 1
theorem LeadP.inside {rs : List Row} {extra : List Int} (hE : ∀ x ∈ extra, 0 ≤ x ∧ x < rs.length) {x : Int} (h : LeadP rs extra x) : 0 ≤ x ∧ x < rs.length := by
  rcases h with ⟨h, k⟩ | ⟨h | ⟨i, r, h1, h2, _, _, h3, h4⟩, k⟩ | ⟨i, r, h1, _, _, h2⟩
  · omega
  · exact hE x h
  · rw [h4]; exact inside_iff.mp h3
  · omega

abbrev leaders_ : Str := Str.ofString "leaders"
abbrev starts_ : Str := Str.ofString "starts"
abbrev place_ : Str := Str.ofString "place"
abbrev end_ : Str := Str.ofString "end"

section
variable {prog : Program} {w : World} {S : Shared} {c : Cx} {σ : St}
set_option maxHeartbeats 8000000 in
theorem blocks_spec (T : Top0 S) (N : Fns2 S) {f : Addr} (H : HasFn S (Str.ofString "blocks") 10 f) {rs : List Row} {extra : List Int} (hn : rs.length ≤ 15) (hl : extra.length ≤ 15) (hE : ∀ x ∈ extra, 0 ≤ x ∧ x < rs.length) :
    Fn prog w S f 3 [rowsD rs, .list (extra.map .int)] (fun d => ∃ ss, d = .list ((partsL ss rs.length).map pairD) ∧ SL (LeadP rs extra) ss) := by
  obtain ⟨nm, qual, doc, pm, an, cdv, ct, fa⟩ := H.fd
  refine Fn_intro fa T.lim (fdOk2 (x := rows_) (y := extra_) (by decide +kernel) (by decide +kernel) (fun a b => rfl)) rfl fun A L rm => ?_
  refine XS_cons (X_own (EF_dict T.mods ?_) rfl)
  refine ⟨rfl, ?_⟩
  refine XS_join [(leaders_, .dct (if 0 < rs.length then [(0, .bool true)] else [])), (rows_, .val (rowsD rs)), (extra_, .val (.list (extra.map .int)))] ?_ ?_
  · refine X_if (TV_cmp (EV_len T.len rfl (EAL_of_EV (EV_name rfl rfl ⟨_, rfl, by simp; omega, EV_int ⟨_, C_gt_int, ?_⟩⟩))))
    simp only [List.length_map]
    split <;> rename_i h1
    · have h1 := of_decide_eq_true h1
      refine XS_cons (X_setdict (kvs₀ := []) (EV_bool ⟨_, rfl, EV_int ⟨_, _, rfl, rfl, by simp, ?_⟩⟩) rfl)
      refine XS_nil ⟨rfl, ?_, rfl, rfl, trivial⟩
      rw [if_pos (by omega)]; rfl
    · have h1 : ¬ _ := fun q => h1 (decide_eq_true q)
      refine XS_nil ⟨rfl, ?_, rfl, rfl, trivial⟩
      rw [if_neg (by omega)]; rfl
  have d0 : DK (fun x => x = 0 ∧ 0 < rs.length) (if 0 < rs.length then [((0 : Int), PyData.bool true)] else []) := by
    split
    · rename_i h; exact ⟨by simp, fun x => by simp [h]⟩
    · rename_i h; exact ⟨by simp, fun x => by simp [h]⟩
  have l0 : (if 0 < rs.length then [((0 : Int), PyData.bool true)] else []).length ≤ 1 := by split <;> simp
  generalize (if 0 < rs.length then [((0 : Int), PyData.bool true)] else []) = kv₀ at d0 l0
  refine XS_cons (X_for_any rm.hh (fun ds k σ => ∃ ts, ds = ts.map PyData.int ∧ SL (TgtK rs extra rs.length) ts ∧ ∃ kvs, Sub [(leaders_, .dct kvs), (rows_, .val (rowsD rs)), (extra_, .val (.list (extra.map .int)))] σ ∧ DK (fun x => (x = 0 ∧ 0 < rs.length) ∨ (x ∈ ts.take k ∧ x < rs.length)) kvs ∧ kvs.length ≤ k + 1)
    (EV_call2P N.h8 (targets_spec T N.toFns0 N.h8 (by omega)) (rm.le (by decide)) rfl rfl rfl rfl rfl fun d ⟨ts, e, hts⟩ => ⟨_, e, ts, rfl, hts, kv₀, ⟨rfl, rfl, rfl, trivial⟩, d0.congr fun x => by simp, l0⟩) ?_ ?_ (.inl (by intro _ _; rfl)))
  · rintro ds k d σ hk ⟨ts, rfl, hts, kvs, hs, hd, hl⟩
    refine AS_name rfl ?_
    rw [List.getElem?_map] at hk
    obtain ⟨v, hv, rfl⟩ := Option.map_eq_some_iff.mp hk
    have hkl := (List.getElem?_eq_some_iff.mp hv).1
    have hb : ts.length ≤ rs.length := nodup_in (hts.1.imp fun h => Int.ne_of_lt h) fun x hx => by
      rcases (hts.2 x).mp hx with h | ⟨i, r, _, _, _, _, h3, h4⟩
      · exact hE x h
      · rw [h4]; exact inside_iff.mp h3
    refine XS_weak [(target_, .val (.int v)), (leaders_, .dct kvs), (rows_, .val (rowsD rs)), (extra_, .val (.list (extra.map .int)))] ⟨rfl, hs.1, hs.2.1, hs.2.2.1, trivial⟩ ?_
    refine XS_cons (X_if (TV_cmp (EV_name rfl rfl (EV_len T.len rfl (EAL_of_EV (EV_name rfl rfl ⟨_, rfl, by simp; omega, ⟨_, C_lt_int, ?_⟩⟩))))))
    simp only [List.length_map]
    have hl' := storedD_len kvs v (.bool true)
    split <;> rename_i h1
    · have h1 := of_decide_eq_true h1
      refine XS_cons (X_setdict (kvs₀ := []) (EV_bool ⟨_, rfl, EV_name rfl rfl ⟨_, _, rfl, rfl, by omega, ?_⟩⟩) rfl)
      refine XS_nil (XS_nil ⟨ts, rfl, hts, _, ⟨rfl, rfl, rfl, trivial⟩, hd.stored fun x => ?_, by omega⟩)
      rw [List.take_add_one, hv]
      simp only [Option.toList_some, List.mem_append, List.mem_singleton]
      constructor
      · rintro (q | ⟨q | q, q'⟩)
        · exact .inl (.inl q)
        · exact .inl (.inr ⟨q, q'⟩)
        · exact .inr q
      · rintro ((q | q) | q)
        · exact .inl q
        · exact .inr ⟨.inl q.1, q.2⟩
        · exact .inr ⟨.inr q, q ▸ h1⟩
    · have h1 : ¬ _ := fun q => h1 (decide_eq_true q)
      refine XS_nil (XS_nil ⟨ts, rfl, hts, _, ⟨rfl, rfl, rfl, trivial⟩, hd.congr fun x => ?_, by omega⟩)
      rw [List.take_add_one, hv]
      simp only [Option.toList_some, List.mem_append, List.mem_singleton]
      constructor
      · rintro (q | q)
        · exact .inl q
        · exact .inr ⟨.inl q.1, q.2⟩
      · rintro (q | ⟨q | q, q'⟩)
        · exact .inl q
        · exact .inr ⟨q, q'⟩
        · exact absurd (q ▸ q') h1
  · rintro ds σ ⟨ts, rfl, hts, kvs, hs, hd, hl⟩
    rw [List.length_map] at hd hl
    rw [List.take_length] at hd
    have hb : ts.length ≤ rs.length := nodup_in (hts.1.imp fun h => Int.ne_of_lt h) fun x hx => by
      rcases (hts.2 x).mp hx with h | ⟨i, r, _, _, _, _, h3, h4⟩
      · exact hE x h
      · rw [h4]; exact inside_iff.mp h3
    show XS _ _ _ _
    refine XS_weak [(leaders_, .dct kvs), (rows_, .val (rowsD rs))] ⟨hs.1, hs.2.1, trivial⟩ ?_
    refine XS_cons (X_for_count (n := rs.length - 1) rm.hh T.range rfl (fun k σ => ∃ kvs, Sub [(leaders_, .dct kvs), (rows_, .val (rowsD rs))] σ ∧
        DK (fun x => (x = 0 ∧ 0 < rs.length) ∨ (TgtK rs extra rs.length x ∧ x < rs.length) ∨ ∃ i r, i < k ∧ rs[i]? = some r ∧ r.ends = true ∧ x = (i : Int) + 1) kvs ∧ kvs.length ≤ ts.length + 1 + k) rfl (by omega)
      (EV_bin (EV_len T.len rfl (EAL_of_EV (EV_name rfl rfl ⟨_, rfl, by simp; omega, EV_int ⟨_, B_sub, _, rfl, by omega, by simp, kvs, ⟨rfl, rfl, trivial⟩, hd.congr fun x => ?_, by omega⟩⟩)))) ?_ ?_)
    · rw [hts.2]
      constructor
      · rintro (q | q)
        · exact .inl q
        · exact .inr (.inl q)
      · rintro (q | q | ⟨i, r, h, _⟩)
        · exact .inl q
        · exact .inr q
        · omega
    · rintro k σ hk ⟨kvs, hs, hd, hl⟩
      refine XS_weak [(index_, .val (.int k)), (leaders_, .dct kvs), (rows_, .val (rowsD rs))] ⟨rfl, hs.1, hs.2.1, trivial⟩ ?_
      have hk' : k < rs.length := by omega
      have hr : rs[k]? = some rs[k] := List.getElem?_eq_getElem hk'
      generalize rs[k] = r at hr
      refine XS_cons (X_if (TV_call1E N.h9 (ends_spec T N.toFns0 N.h9 r) (rm.le (by decide)) rfl (EV_row rfl rfl rfl rfl hr (by omega) ⟨rfl, ?_⟩)))
      have hl' := storedD_len kvs ((k : Int) + 1) (.bool true)
      split <;> rename_i h1
      · refine XS_cons (X_setdict (kvs₀ := []) (EV_bool ⟨_, rfl, EV_bin (EV_name rfl rfl (EV_int ⟨_, B_add, _, _, rfl, rfl, by omega, ?_⟩))⟩) rfl)
        refine XS_nil (XS_nil ⟨_, ⟨rfl, rfl, trivial⟩, hd.stored fun x => ?_, by omega⟩)
        constructor
        · rintro (q | q | ⟨i, r', h, h', h'', h3⟩)
          · exact .inl (.inl q)
          · exact .inl (.inr (.inl q))
          · rcases Nat.lt_or_ge i k with q | q
            · exact .inl (.inr (.inr ⟨i, r', q, h', h'', h3⟩))
            · have : i = k := by omega
              subst this
              exact .inr h3
        · rintro ((q | q | ⟨i, r', h, h', h'', h3⟩) | q)
          · exact .inl q
          · exact .inr (.inl q)
          · exact .inr (.inr ⟨i, r', by omega, h', h'', h3⟩)
          · exact .inr (.inr ⟨k, r, by omega, hr, h1, q⟩)
      · refine XS_nil (XS_nil ⟨_, ⟨rfl, rfl, trivial⟩, hd.congr fun x => ?_, by omega⟩)
        constructor
        · rintro (q | q | ⟨i, r', h, h', h'', h3⟩)
          · exact .inl q
          · exact .inr (.inl q)
          · exact .inr (.inr ⟨i, r', by omega, h', h'', h3⟩)
        · rintro (q | q | ⟨i, r', h, h', h'', h3⟩)
          · exact .inl q
          · exact .inr (.inl q)
          · rcases Nat.lt_or_ge i k with q | q
            · exact .inr (.inr ⟨i, r', q, h', h'', h3⟩)
            · have : i = k := by omega
              subst this
              rw [hr] at h'; cases h'
              exact absurd h'' h1
    · rintro σ ⟨kvs, hs, hd, hl⟩
      replace hd : DK (LeadP rs extra) kvs := hd.congr fun x => by
        unfold LeadP
        constructor
        · rintro (q | q | ⟨i, r', h, h', h'', h3⟩)
          · exact .inl q
          · exact .inr (.inl q)
          · exact .inr (.inr ⟨i, r', by omega, h', h'', h3⟩)
        · rintro (q | q | ⟨i, r', h, h', h'', h3⟩)
          · exact .inl q
          · exact .inr (.inl q)
          · exact .inr (.inr ⟨i, r', by omega, h', h'', h3⟩)
      show XS _ _ _ _
      refine XS_weak [(leaders_, .dct kvs), (rows_, .val (rowsD rs))] ⟨hs.1, hs.2.1, trivial⟩ ?_
      refine XS_cons (X_assign (EV_of_EF (EF_sorted_dict T.sorted rfl T.mods rm.hh rfl rfl (by omega) fun ss hp hq => ⟨_, rfl, rfl, ?_⟩)) rfl)
      have hss := hd.sl hp hq
      have hsl : ss.length ≤ rs.length := nodup_in (hss.1.imp fun h => Int.ne_of_lt h) fun x hx => ((hss.2 x).mp hx).inside hE
      refine XS_cons (X_own (EF_list (EVs_nil ⟨by simp, rfl, ?_⟩)) rfl)
      refine XS_cons (X_for_count (n := ss.length) rm.hh T.range rfl (fun k σ => Sub [(found_, .lst (((partsL ss rs.length).take k).map pairD)), (starts_, .val (.list (ss.map .int))), (rows_, .val (rowsD rs))] σ) rfl (by omega)
        (EV_len T.len rfl (EAL_of_EV (EV_name rfl rfl ⟨_, rfl, by simp; omega, _, rfl, by omega, by simp, ⟨rfl, rfl, rfl, trivial⟩⟩))) ?_ ?_)
      · rintro k σ hk hs
        refine XS_weak [(place_, .val (.int k)), (found_, .lst (((partsL ss rs.length).take k).map pairD)), (starts_, .val (.list (ss.map .int))), (rows_, .val (rowsD rs))] ⟨rfl, hs.1, hs.2.1, hs.2.2.1, trivial⟩ ?_
        have hr : ss[k]? = some ss[k] := List.getElem?_eq_getElem hk
        generalize ss[k] = a at hr
        refine XS_cons (X_assign (EV.mono (Q := fun d σ' => ∃ b, d = .int b ∧ (partsL ss rs.length)[k]? = some (a, b) ∧ σ' = [(place_, .val (.int k)), (found_, .lst (((partsL ss rs.length).take k).map pairD)), (starts_, .val (.list (ss.map .int))), (rows_, .val (rowsD rs))]) (EV_ifexp (TV_cmp (EV_bin (EV_name rfl rfl (EV_int ⟨_, B_add, EV_len T.len rfl (EAL_of_EV (EV_name rfl rfl ⟨_, rfl, by simp; omega, ⟨_, C_eq_int, ?_⟩⟩))⟩))))) ?_) rfl)
        · simp only [List.length_map]
          split <;> rename_i h1
          · have h1 := eq_of_beq h1
            refine EV_len T.len rfl (EAL_of_EV (EV_name rfl rfl ⟨_, rfl, by simp; omega, ?_⟩))
            simp only [List.length_map]
            exact ⟨_, rfl, partsL_last hr (by omega), trivial⟩
          · have h1 : ¬ ((k : Int) + 1 = ss.length) := fun q => h1 (by simp [q])
            have hk2 : k + 1 < ss.length := by omega
            have hr2 : ss[k + 1]? = some ss[k + 1] := List.getElem?_eq_getElem hk2
            generalize ss[k + 1] = b at hr2
            refine EV_item_list (EV_name rfl rfl (EV_bin (EV_name rfl rfl (EV_int ⟨_, B_add, _, _, _, rfl, rfl, by omega, by omega, ?_, ⟨_, rfl, partsL_mid hr hr2, rfl⟩⟩))))
            have : ((k : Int) + 1).toNat = k + 1 := by omega
            simp [this, hr2]
        · rintro d σ' ⟨b, rfl, hb, rfl⟩
          have hpl := partsL_len ss rs.length
          have e : (partsL ss rs.length).take (k + 1) = (partsL ss rs.length).take k ++ [(a, b)] := by rw [List.take_add_one, hb]; rfl
          refine XS_cons (X_expr (EV_append rfl rfl (EV_tuple (EVs_cons (EV_item_list (EV_name rfl rfl (EV_name rfl rfl ⟨_, _, _, rfl, rfl, by omega, by omega, by simp [hr]; rfl, EVs_cons (EV_name rfl rfl (EVs_nil ⟨by simp, _, rfl, ?_, XS_nil ⟨?_, rfl, rfl, trivial⟩⟩))⟩)))))))
          · simp; omega
          · rw [e, List.map_append]; rfl
      · intro σ hs
        show XS _ _ _ _
        refine XS_weak [(found_, .lst (((partsL ss rs.length).take ss.length).map pairD))] ⟨hs.1, trivial⟩ ?_
        refine XS_cons (X_return (EV_freeze rfl rfl ⟨ss, ?_, hss⟩))
        rw [List.take_of_length_le (by rw [partsL_len]; exact Nat.le_refl _)]
end
end

/-! # part U -/
section

theorem stored_find (kvs : List (Int × PyData)) (k : Int) (v : PyData) (x : Int) : ((storedD kvs k v).find? fun kv => kv.1 = x).map (·.2) = if x = k then some v else (kvs.find? fun kv => kv.1 = x).map (·.2) := by
  unfold storedD
  split
  · rename_i h
    induction kvs with
    | nil => simp at h
    | cons q r ih =>
      obtain ⟨a, d⟩ := q
      by_cases hak : a = k
      · subst hak
        simp only [List.map_cons, if_true]
        by_cases hx : x = a
        · subst hx; simp [List.find?]
        · have hx' : ¬ a = x := fun q => hx q.symm
          simp only [List.find?, hx', decide_false, hx, if_false]
          have nk : ∀ l : List (Int × PyData), ((l.map fun kv => if kv.1 = a then (kv.1, v) else kv).find? fun kv => decide (kv.1 = x)).map (·.2) = (l.find? fun kv => decide (kv.1 = x)).map (·.2) := by
            intro l
            induction l with
            | nil => rfl
            | cons q r ih2 =>
              obtain ⟨b, e⟩ := q
              by_cases hb : b = a
              · subst hb
                simp only [List.map_cons, if_true, List.find?, hx', decide_false]
                exact ih2
              · simp only [List.map_cons, hb, if_false, List.find?]
                by_cases hbx : b = x
                · simp [hbx]
                · simp only [hbx, decide_false]; exact ih2
          exact nk r
      · have h' : r.any (fun kv => decide (kv.1 = k)) = true := by simpa [hak] using h
        simp only [List.map_cons, hak, if_false, List.find?]
        by_cases hx : a = x
        · have : ¬ x = k := fun q => hak (hx.trans q)
          simp [hx, this]
        · simp only [hx, decide_false]
          exact ih h'
  · rename_i h
    rw [List.find?_append]
    cases hf : kvs.find? (fun kv => decide (kv.1 = x)) with
    | some q =>
      have h1 := List.find?_some hf
      have h2 := List.mem_of_find?_eq_some hf
      have : ¬ x = k := fun e => h (List.any_eq_true.mpr ⟨q, h2, by simpa [e] using h1⟩)
      simp [this]
    | none =>
      by_cases hx : x = k
      · simp [hx]
      · have : ¬ k = x := fun q => hx q.symm
        simp [hx, this]

/-- the parts as the law makes them -/
structure PartsOk (rs : List Row) (ps : List (Int × Int)) : Prop where
  inc : (ps.map (·.1)).Pairwise (· < ·)
  ok : ∀ q ∈ ps, 0 ≤ q.1 ∧ q.1 < q.2 ∧ q.2 ≤ rs.length
  sub : ∀ q ∈ ps, ∀ r, rs[(q.2 - 1).toNat]? = some r → ∀ t ∈ succL r rs.length (q.2 - 1).toNat, t ∈ ps.map (·.1)
def EdgP (ps : List (Int × Int)) (L : List Int) (x : Int) : Prop := ∃ (j : Nat) (q : Int × Int), x = (j : Int) ∧ ps[j]? = some q ∧ q.1 ∈ L
def EdgesOk (rs : List Row) (ps : List (Int × Int)) (k : Nat) (es : List (List Int)) : Prop :=
  es.length = k ∧ ∀ (j : Nat) (q : Int × Int) (ns : List Int), ps[j]? = some q → es[j]? = some ns → ∃ r, rs[(q.2 - 1).toNat]? = some r ∧ SL (EdgP ps (succL r rs.length (q.2 - 1).toNat)) ns
abbrev intsD (ns : List Int) : PyData := .list (ns.map .int)
theorem fst_inj {ps : List (Int × Int)} (h : (ps.map (·.1)).Pairwise (· < ·)) {i j : Nat} {q q' : Int × Int} (hi : ps[i]? = some q) (hj : ps[j]? = some q') (e : q.1 = q'.1) : i = j := by
  have hi' : (ps.map (·.1))[i]? = some q.1 := by simp [hi]
  have hj' : (ps.map (·.1))[j]? = some q.1 := by simp [hj, e]
  obtain ⟨li, ei⟩ := List.getElem?_eq_some_iff.mp hi'
  obtain ⟨lj, ej⟩ := List.getElem?_eq_some_iff.mp hj'
  have := List.pairwise_iff_getElem.mp h
  rcases Nat.lt_trichotomy i j with q | q | q
  · have := this i j li lj q; omega
  · exact q
  · have := this j i lj li q; omega
abbrev parts_ : Str := Str.ofString "parts"
abbrev place_of_ : Str := Str.ofString "place_of"
abbrev edges_ : Str := Str.ofString "edges"
abbrev first_ : Str := Str.ofString "first"

section
variable {prog : Program} {w : World} {S : Shared} {c : Cx} {σ : St}
set_option maxHeartbeats 8000000 in
theorem edges_spec (T : Top0 S) (N : Fns2 S) {f : Addr} (H : HasFn S (Str.ofString "block_edges") 11 f) {rs : List Row} {ps : List (Int × Int)} (hn : rs.length ≤ 15) (hp : ps.length ≤ 15) (P : PartsOk rs ps) :
    Fn prog w S f 3 [rowsD rs, .list (ps.map pairD)] (fun d => ∃ es, d = .list (es.map intsD) ∧ EdgesOk rs ps ps.length es) := by
  obtain ⟨nm, qual, doc, pm, an, cdv, ct, fa⟩ := H.fd
  refine Fn_intro fa T.lim (fdOk2 (x := rows_) (y := parts_) (by decide +kernel) (by decide +kernel) (fun a b => rfl)) rfl fun A L rm => ?_
  refine XS_cons (X_own (EF_dict T.mods ?_) rfl)
  refine ⟨rfl, ?_⟩
  refine XS_cons (X_for_count (n := ps.length) rm.hh T.range rfl (fun k σ => ∃ kvs, Sub [(place_of_, .dct kvs), (rows_, .val (rowsD rs)), (parts_, .val (.list (ps.map pairD)))] σ ∧ kvs.length ≤ k ∧ ∀ (j : Nat) q, j < k → ps[j]? = some q → (kvs.find? fun kv => kv.1 = q.1).map (·.2) = some (.int j)) rfl (by omega)
    (EV_len T.len rfl (EAL_of_EV (EV_name rfl rfl ⟨_, rfl, by simp; omega, _, rfl, by omega, by simp, [], ⟨rfl, rfl, rfl, trivial⟩, by simp, fun j q h => absurd h (by omega)⟩))) ?_ ?_)
  · rintro k σ hk ⟨kvs, hs, hl, hf⟩
    refine XS_weak [(place_, .val (.int k)), (place_of_, .dct kvs), (rows_, .val (rowsD rs)), (parts_, .val (.list (ps.map pairD)))] ⟨rfl, hs.1, hs.2.1, hs.2.2.1, trivial⟩ ?_
    have hr : ps[k]? = some ps[k] := List.getElem?_eq_getElem hk
    generalize ps[k] = q at hr
    have hl' := storedD_len kvs q.1 (.int k)
    refine XS_cons (X_setdict (kvs₀ := []) (EV_name rfl rfl ⟨_, rfl, EV_item_tup (EV_item_list (EV_name rfl rfl (EV_name rfl rfl ⟨_, _, pairD q, rfl, rfl, by omega, by omega, by simp [hr], EV_int ⟨_, _, .int q.1, rfl, rfl, by decide, by decide, rfl, _, _, rfl, rfl, by omega, ?_⟩⟩)))⟩) rfl)
    refine XS_nil ⟨_, ⟨rfl, rfl, rfl, trivial⟩, by omega, fun j q' hj hq' => ?_⟩
    rw [stored_find]
    split
    · rename_i e
      have := fst_inj P.inc hq' hr e
      rw [this]
    · rename_i e
      rcases Nat.lt_or_ge j k with h | h
      · exact hf j q' h hq'
      · have : j = k := by omega
        subst this
        rw [hr] at hq'; cases hq'
        exact absurd rfl e
  · rintro σ ⟨kvs, hs, hl, hf⟩
    show XS _ _ _ _
    refine XS_weak [(place_of_, .dct kvs), (rows_, .val (rowsD rs)), (parts_, .val (.list (ps.map pairD)))] ⟨hs.1, hs.2.1, hs.2.2.1, trivial⟩ ?_
    refine XS_cons (X_own (EF_list (EVs_nil ⟨by simp, rfl, ?_⟩)) rfl)
    refine XS_cons (X_for_at (ds := ps.map pairD) rm.hh (fun k σ => ∃ es, Sub [(edges_, .lst (es.map intsD)), (place_of_, .dct kvs), (rows_, .val (rowsD rs))] σ ∧ EdgesOk rs ps k es) (EV_name rfl rfl ⟨rfl, [], ⟨rfl, rfl, rfl, trivial⟩, rfl, fun j q ns _ h => by simp at h⟩) ?_ ?_ (.inr ⟨_, _, _, rfl⟩))
    · rintro k d σ hk ⟨es, hs, he⟩
      rw [List.getElem?_map] at hk
      obtain ⟨q, hq, rfl⟩ := Option.map_eq_some_iff.mp hk
      have hkl := (List.getElem?_eq_some_iff.mp hq).1
      have hmem := List.mem_of_getElem? hq
      obtain ⟨q0, q1, q2⟩ := P.ok q hmem
      refine AS_pair rm.hh rfl rfl ?_
      refine XS_weak [(end_, .val (.int q.2)), (first_, .val (.int q.1)), (edges_, .lst (es.map intsD)), (place_of_, .dct kvs), (rows_, .val (rowsD rs))] ⟨rfl, rfl, hs.1, hs.2.1, hs.2.2.1, trivial⟩ ?_
      refine XS_cons (X_own (EF_dict T.mods ⟨rfl, ?_⟩) rfl)
      have hi : (q.2 - 1).toNat < rs.length := by omega
      have hr : rs[(q.2 - 1).toNat]? = some rs[(q.2 - 1).toNat] := List.getElem?_eq_getElem hi
      generalize rs[(q.2 - 1).toNat] = r at hr
      have hqi : q.2 - 1 = (((q.2 - 1).toNat : Nat) : Int) := by omega
      obtain ⟨i, hidef⟩ : ∃ i, i = (q.2 - 1).toNat := ⟨_, rfl⟩
      rw [← hidef] at hr hqi hi
      have hsub := P.sub q hmem r (by rw [← hidef]; exact hr)
      rw [← hidef] at hsub
      have hst : ∀ t, t ∈ srt (succL r rs.length i) ↔ t ∈ succL r rs.length i := fun t => (srt_perm _).mem_iff
      have hsl : (srt (succL r rs.length i)).length ≤ 2 := by
        rw [(srt_perm _).length_eq]; unfold succL fallL; split <;> split <;> simp
      refine XS_cons (X1.mono (Q := fun o σ' => o = .next ∧ ∃ fv, Sub [(found_, .dct fv), (edges_, .lst (es.map intsD)), (place_of_, .dct kvs), (rows_, .val (rowsD rs))] σ' ∧ DK (EdgP ps (succL r rs.length i)) fv ∧ fv.length ≤ 2) (X_if (TV_cmp (EV_name rfl rfl (EV_name rfl rfl ⟨_, C_gt_int, ?_⟩)))) ?_)
      · have hd : decide (q.1 < q.2) = true := by simp [q1]
        rw [hd]
        simp only [if_true]
        refine XS_cons (X_for_at (ds := (srt (succL r rs.length i)).map .int) rm.hh (fun k σ => ∃ fv, Sub [(found_, .dct fv), (edges_, .lst (es.map intsD)), (place_of_, .dct kvs), (rows_, .val (rowsD rs))] σ ∧ DK (EdgP ps ((srt (succL r rs.length i)).take k)) fv ∧ fv.length ≤ k)
          (EV_call2E (n := 2) N.h6 (rm.le (by decide)) rfl rfl rfl (EV_bin (EV_name rfl rfl (EV_int ⟨_, B_sub, ?_⟩)))) ?_ ?_ (.inl (by intro _ _; rfl)))
        · rw [hqi]
          refine ⟨_, successors_spec T N.toFns0 N.h6 hr (by omega), fun d e => ⟨e, [], ⟨rfl, rfl, rfl, rfl, trivial⟩, DK.nil fun x => ?_, by simp⟩⟩
          rintro ⟨_, _, _, _, h⟩
          simp at h
        · rintro k2 d σ hk2 ⟨fv, hs, hfd, hfl⟩
          rw [List.getElem?_map] at hk2
          obtain ⟨t, ht, rfl⟩ := Option.map_eq_some_iff.mp hk2
          have hkl2 := (List.getElem?_eq_some_iff.mp ht).1
          have htm : t ∈ ps.map (·.1) := hsub t ((hst t).mp (List.mem_of_getElem? ht))
          obtain ⟨q', hq', e'⟩ := List.mem_map.mp htm
          obtain ⟨j, hj⟩ := List.mem_iff_getElem?.mp hq'
          have hjl := (List.getElem?_eq_some_iff.mp hj).1
          refine AS_name rfl ?_
          refine XS_weak [(target_, .val (.int t)), (found_, .dct fv), (edges_, .lst (es.map intsD)), (place_of_, .dct kvs), (rows_, .val (rowsD rs))] ⟨rfl, hs.1, hs.2.1, hs.2.2.1, hs.2.2.2.1, trivial⟩ ?_
          have hl' := storedD_len fv j (.bool true)
          refine XS_cons (X_setdict (kvs₀ := []) (EV_bool ⟨_, rfl, EV_item_dict (kvs₀ := kvs) rfl rfl (EV_name rfl rfl ⟨_, kvs, .int j, rfl, rfl, ?_, _, _, rfl, rfl, by omega, ?_⟩)⟩) rfl)
          · rw [← e']; exact hf j q' hjl hj
          · refine XS_nil ⟨_, ⟨rfl, rfl, rfl, rfl, trivial⟩, hfd.stored fun x => ?_, by omega⟩
            unfold EdgP
            rw [List.take_add_one, ht]
            simp only [Option.toList_some, List.mem_append, List.mem_singleton]
            constructor
            · rintro ⟨j', q2, e1, e2, e3 | e3⟩
              · exact .inl ⟨j', q2, e1, e2, e3⟩
              · refine .inr ?_
                rw [e1, fst_inj P.inc e2 hj (e3.trans e'.symm)]
            · rintro (⟨j', q2, e1, e2, e3⟩ | h)
              · exact ⟨j', q2, e1, e2, .inl e3⟩
              · exact ⟨j, q', h, hj, .inr e'⟩
        · rintro σ ⟨fv, hs, hfd, hfl⟩
          rw [List.length_map] at hfd hfl
          rw [List.take_length] at hfd
          refine XS_nil ⟨rfl, fv, hs, hfd.congr fun x => ?_, by omega⟩
          unfold EdgP
          simp only [hst]
      · rintro o σ ⟨rfl, fv, hs, hfd, hfl⟩
        show XS _ _ _ _
        refine XS_weak [(found_, .dct fv), (edges_, .lst (es.map intsD)), (place_of_, .dct kvs), (rows_, .val (rowsD rs))] ⟨hs.1, hs.2.1, hs.2.2.1, hs.2.2.2.1, trivial⟩ ?_
        have hel := he.1
        refine XS_cons (X_expr (EV_append rfl rfl (EV_of_EF (EF_sorted_dict T.sorted rfl T.mods rm.hh rfl rfl (by omega) fun ns hp' hq' => ⟨_, rfl, rfl, _, rfl, by simp; omega, ?_⟩))))
        refine XS_nil ⟨es ++ [ns], ⟨?_, rfl, rfl, trivial⟩, by simp [hel], fun j q2 ns' h1 h2 => ?_⟩
        · rw [List.map_append]; rfl
        · rcases Nat.lt_or_ge j k with h | h
          · rw [List.getElem?_append_left (by omega)] at h2
            exact he.2 j q2 ns' h1 h2
          · have h3 := (List.getElem?_eq_some_iff.mp h2).1
            have h3' : j < k + 1 := by simpa [hel] using h3
            have : j = k := by omega
            subst this
            rw [hq] at h1; cases h1
            rw [List.getElem?_append_right (by omega)] at h2
            have : j - es.length = 0 := by omega
            rw [this] at h2
            cases h2
            exact ⟨r, by rw [← hidef]; exact hr, by rw [← hidef]; exact hfd.sl hp' hq'⟩
    · rintro σ ⟨es, hs, he⟩
      rw [List.length_map] at he
      show XS _ _ _ _
      refine XS_weak [(edges_, .lst (es.map intsD))] ⟨hs.1, trivial⟩ ?_
      exact XS_cons (X_return (EV_freeze rfl rfl ⟨es, rfl, he⟩))
end
end

/-! # part V -/
section

def clOf (env : Env) (ns : List Str) : List (Str × Addr) := ns.map fun n => (n, (env.cells.lookup n).getD 0)
def blkChk (scope : Scope) (ns : List Str) (env : Env) (x : Str) : Bool :=
  ns.all (fun n => (env.cells.lookup n).isSome && !((relabel scope env).names.lookup n == some .local)) &&
  (relabel scope env).names.all (fun q => !(q.2 == .cell) || ns.any (fun n => n == q.1)) &&
  ((relabel scope env).names.lookup tmp).isNone && (relabel scope env).names.lookup x == some .local && scope.names.lookup x == some .local && scope.kind == .function &&
  scope.names.all (fun y => !(y.2 == .cell)) && scope.names.all (fun y => !(y.2 == .local) || scope.names.lookup y.1 == some .local)
theorem clOf_lookup {env : Env} : ∀ {ns : List Str} {y : Str} {k : Addr}, (clOf env ns).lookup y = some k → y ∈ ns ∧ k = (env.cells.lookup y).getD 0
  | [], y, k, h => by simp [clOf] at h
  | n :: ns, y, k, h => by
    unfold clOf at h
    rw [List.map_cons, List.lookup_cons] at h
    cases e : y == n with
    | true => rw [e] at h; cases h; have := eq_of_beq e; subst this; exact ⟨by simp, rfl⟩
    | false => rw [e] at h; obtain ⟨a, b⟩ := clOf_lookup (ns := ns) h; exact ⟨List.mem_cons_of_mem _ a, b⟩
theorem clOf_has {env : Env} : ∀ {ns : List Str} {y : Str}, y ∈ ns → ∃ k, (clOf env ns).lookup y = some k
  | n :: ns, y, h => by
    unfold clOf
    rw [List.map_cons, List.lookup_cons]
    cases e : y == n with
    | true => exact ⟨_, rfl⟩
    | false =>
      rcases List.mem_cons.mp h with rfl | h
      · simp at e
      · exact clOf_has (ns := ns) h
theorem lookup_mem' {β : Type} : ∀ {l : List (Str × β)} {y : Str} {b : β}, l.lookup y = some b → (y, b) ∈ l
  | [], y, b, h => by simp at h
  | (n, c) :: l, y, b, h => by
    rw [List.lookup_cons] at h
    cases e : y == n with
    | true => rw [e] at h; cases h; rw [eq_of_beq e]; exact List.mem_cons_self
    | false => rw [e] at h; exact List.mem_cons_of_mem _ (lookup_mem' h)
theorem blockOk {scope : Scope} {env : Env} {x : Str} (ns : List Str) (hc : closureFor scope env = pure (clOf env ns)) (h : blkChk scope ns env x = true) : BlockOk scope (clOf env ns) env x := by
  unfold blkChk at h
  simp only [Bool.and_eq_true] at h
  obtain ⟨⟨⟨⟨⟨⟨⟨h1, h2⟩, h3⟩, h4⟩, h5⟩, h6⟩, h7⟩, h8⟩ := h
  rw [List.all_eq_true] at h1 h2 h7 h8
  refine ⟨fun y k e => ?_, fun C y e => ?_, fun C y k e q => ?_, fun C => ?_, fun C => eq_of_beq h4, eq_of_beq h5, eq_of_beq h6, fun y hy q => ?_, fun y hy q => ?_, hc⟩
  · obtain ⟨a, b⟩ := clOf_lookup e
    have := h1 y a
    simp only [Bool.and_eq_true] at this
    obtain ⟨v, hv⟩ := Option.isSome_iff_exists.mp this.1
    rw [b, hv]; rfl
  · have hm := lookup_mem' (l := (relabel scope env).names) e
    have := h2 _ hm
    simp only [beq_self_eq_true, Bool.not_true, Bool.false_or, List.any_eq_true] at this
    obtain ⟨n, hn, e'⟩ := this
    rw [← eq_of_beq e']
    exact clOf_has hn
  · obtain ⟨a, b⟩ := clOf_lookup e
    have := h1 y a
    simp only [Bool.and_eq_true, Bool.not_eq_true'] at this
    have q' : (relabel scope env).names.lookup y = some .local := q
    rw [q'] at this
    simp at this
  · exact Option.isNone_iff_eq_none.mp h3
  · have := h7 y hy
    rw [q] at this
    simp at this
  · have := h8 y hy
    rw [q] at this
    simpa using this

/-! ### what is reached -/
inductive Rch (rs : List Row) (st : List Int) : Int → Prop
  | start {x : Int} : x ∈ st → 0 ≤ x → x < rs.length → Rch rs st x
  | step {x y : Int} {r : Row} : Rch rs st x → rs[x.toNat]? = some r → (y ∈ succL r rs.length x.toNat ∨ y ∈ callL r rs.length x.toNat) → Rch rs st y
theorem succL_in {r : Row} {n i : Nat} (hi : i < n) {y : Int} (h : y ∈ succL r n i) : 0 ≤ y ∧ y < n := by
  have hf : ∀ y, y ∈ fallL r n i → 0 ≤ y ∧ y < n := fun y hy => by
    unfold fallL at hy
    split at hy
    · rename_i q; simp at hy; omega
    · simp at hy
  unfold succL at h
  split at h
  · rename_i q
    rcases List.mem_append.mp h with h | h
    · exact hf y h
    · rw [List.mem_singleton.mp h]; exact inside_iff.mp q.2.2.1
  · exact hf y h
theorem callL_in {r : Row} {n i : Nat} {y : Int} (h : y ∈ callL r n i) : 0 ≤ y ∧ y < n := by
  unfold callL at h
  split at h
  · rename_i q
    rw [List.mem_singleton.mp h]; exact inside_iff.mp q.2.2
  · simp at h
theorem Rch.inside {rs : List Row} {st : List Int} {x : Int} (h : Rch rs st x) : 0 ≤ x ∧ x < rs.length := by
  cases h with
  | start a b c => exact ⟨b, c⟩
  | step a b c =>
    have := (List.getElem?_eq_some_iff.mp b).1
    rcases c with c | c
    · exact succL_in this c
    · exact callL_in c
abbrev seen_ : Str := Str.ofString "seen"
abbrev work_ : Str := Str.ofString "work"

structure RchI (rs : List Row) (st : List Int) (ks wk : List Int) : Prop where
  nd : ks.Nodup
  ok : ∀ x, x ∈ ks ∨ x ∈ wk → Rch rs st x
  st_ : ∀ x ∈ st, 0 ≤ x → x < rs.length → x ∈ ks ∨ x ∈ wk
  cl : ∀ x ∈ ks, ∀ r, rs[x.toNat]? = some r → ∀ y, (y ∈ succL r rs.length x.toNat ∨ y ∈ callL r rs.length x.toNat) → y ∈ ks ∨ y ∈ wk
theorem RchI.done {rs : List Row} {st ks : List Int} (I : RchI rs st ks []) (x : Int) : x ∈ ks ↔ Rch rs st x := by
  constructor
  · intro h; exact I.ok x (.inl h)
  · intro h
    induction h with
    | start a b c => exact (I.st_ _ a b c).elim id fun q => by simp at q
    | step a b c ih => exact (I.cl _ ih _ b _ c).elim id fun q => by simp at q
theorem RchI.room {rs : List Row} {st ks wk : List Int} (I : RchI rs st ks wk) : ks.length ≤ rs.length := nodup_in I.nd fun x hx => (I.ok x (.inl hx)).inside

abbrev Fns3 := Fns2

section
variable {prog : Program} {w : World} {S : Shared} {c : Cx} {σ : St}
theorem succL_len (r : Row) (n i : Nat) : (succL r n i).length ≤ 2 := by unfold succL fallL; split <;> split <;> simp
theorem callL_len (r : Row) (n i : Nat) : (callL r n i).length ≤ 1 := by unfold callL; split <;> simp

set_option maxHeartbeats 8000000 in
theorem reach_spec (T : Top0 S) (N : Fns2 S) {f : Addr} (H : HasFn S (Str.ofString "reach_rows") 12 f) {rs : List Row} {st : List Int} (hn : rs.length ≤ 15) (hs : st.length ≤ 15) :
    Fn prog w S f 3 [rowsD rs, .list (st.map .int)] (fun d => ∃ ns, d = .list (ns.map .int) ∧ SL (Rch rs st) ns) := by
  obtain ⟨nm, qual, doc, pm, an, cdv, ct, fa⟩ := H.fd
  refine Fn_intro fa T.lim (fdOk2 (x := rows_) (y := starts_) (by decide +kernel) (by decide +kernel) (fun a b => rfl)) rfl fun A L rm => ?_
  refine XS_cons (X_own (EF_dict T.mods ?_) rfl)
  refine ⟨rfl, ?_⟩
  refine XS_cons (X_listcomp (blockOk [rows_] rfl rfl) rfl rfl (fun rest acc σ => ∃ ds es, rest = ds.map PyData.int ∧ acc = es.map PyData.int ∧ ds.length + es.length ≤ st.length ∧ (∀ x ∈ es, x ∈ st ∧ 0 ≤ x ∧ x < rs.length) ∧ (∀ x ∈ ds, x ∈ st) ∧ (∀ x ∈ st, 0 ≤ x → x < rs.length → x ∈ ds ∨ x ∈ es) ∧
      Sub [(seen_, .dct []), (rows_, .val (rowsD rs))] σ)
    (ESrc_list rm.hh (EV_name rfl rfl ⟨_, rfl, by simp; omega, st, [], rfl, rfl, by simp, by simp, fun x h => h, fun x h _ _ => .inl h, rfl, rfl, trivial⟩)) ?_ ?_)
  · rintro C d rest acc σ ⟨ds, es, h1, rfl, h3, h4, h5, h6, h7⟩
    cases ds with
    | nil => cases h1
    | cons v ds =>
      cases h1
      refine ⟨[(rows_, .val (rowsD rs))], fun q hq => ?_, TIfs_one (TV_bool (TVs_and (TV_cmp (EV_int (EV_name rfl rfl ⟨_, C_le_int, ?_⟩)))))⟩
      · rw [List.mem_singleton.mp hq]; exact ⟨rfl, h7.2.1⟩
      · have mg : ∀ (es' : List Int), ∃ σ₂ : St, Merge (clOf (callEnvC (fdOf 12 nm qual doc pm an cdv ct) L f) [rows_]) [(start_, .val (.int v)), (rows_, .val (rowsD rs))] σ σ₂ ∧ Sub [(seen_, .dct []), (rows_, .val (rowsD rs))] σ₂ := fun es' => by
          refine ⟨[(seen_, .dct []), (rows_, .val (rowsD rs))], fun q hq => ?_, rfl, rfl, trivial⟩
          rcases List.mem_cons.mp hq with rfl | hq
          · exact .inr ⟨rfl, h7.1⟩
          · rw [List.mem_singleton.mp hq]; exact .inl ⟨rfl, rfl⟩
        have no : ¬ (0 ≤ v ∧ v < rs.length) → ∀ x ∈ st, 0 ≤ x → x < rs.length → x ∈ ds ∨ x ∈ es := fun q x hx a b => by
          rcases h6 x hx a b with h | h
          · rcases List.mem_cons.mp h with rfl | h
            · exact absurd ⟨a, b⟩ q
            · exact .inl h
          · exact .inr h
        split <;> rename_i g1
        · refine TVs_and (TV_cmp (EV_name rfl rfl (EV_len T.len rfl (EAL_of_EV (EV_name rfl rfl ⟨_, rfl, by simp; omega, ⟨_, C_lt_int, ?_⟩⟩)))))
          simp only [List.length_map]
          split <;> rename_i g2
          · refine TVs_nil (EV_name rfl rfl ?_)
            have g1 := of_decide_eq_true g1
            have g2 := of_decide_eq_true g2
            obtain ⟨σ₂, m, s2⟩ := mg es
            refine ⟨σ₂, m, ds, es ++ [v], rfl, by simp, by simp at h3 ⊢; omega, fun x hx => ?_, fun x hx => h5 x (List.mem_cons_of_mem _ hx), fun x hx a b => ?_, s2⟩
            · rcases List.mem_append.mp hx with h | h
              · exact h4 x h
              · rw [List.mem_singleton.mp h]; exact ⟨h5 v (by simp), g1, g2⟩
            · rcases h6 x hx a b with h | h
              · rcases List.mem_cons.mp h with rfl | h
                · exact .inr (by simp)
                · exact .inl h
              · exact .inr (by simp [h])
          · have g2 : ¬ _ := fun q => g2 (decide_eq_true q)
            obtain ⟨σ₂, m, s2⟩ := mg es
            exact ⟨σ₂, m, ds, es, rfl, rfl, by simp at h3; omega, h4, fun x hx => h5 x (List.mem_cons_of_mem _ hx), no fun q => g2 q.2, s2⟩
        · have g1 : ¬ _ := fun q => g1 (decide_eq_true q)
          obtain ⟨σ₂, m, s2⟩ := mg es
          exact ⟨σ₂, m, ds, es, rfl, rfl, by simp at h3; omega, h4, fun x hx => h5 x (List.mem_cons_of_mem _ hx), no fun q => g1 q.1, s2⟩
  · rintro acc σ ⟨ds, es, h1, rfl, h3, h4, h5, h6, h7⟩
    cases ds with
    | cons v ds => cases h1
    | nil =>
      show XS _ _ _ _
      refine XS_weak [(work_, .lst (es.map .int)), (seen_, .dct []), (rows_, .val (rowsD rs))] ⟨rfl, h7.1, h7.2.1, trivial⟩ ?_
      refine XS_cons (X_while (fun m σ => ∃ kvs wk, Sub [(work_, .lst (wk.map .int)), (seen_, .dct kvs), (rows_, .val (rowsD rs))] σ ∧ RchI rs st (kvs.map (·.1)) wk ∧ m = 4 * (rs.length - kvs.length) + wk.length ∧ m ≤ 200) _
        ⟨[], es, ⟨rfl, rfl, rfl, trivial⟩, ⟨by simp, fun x hx => ?_, fun x hx a b => ?_, fun x hx => by simp at hx⟩, rfl, by simp at h3 ⊢; omega⟩ ?_)
      · rcases hx with h | h
        · simp at h
        · obtain ⟨a, b, c⟩ := h4 x h
          exact .start a b c
      · rcases h6 x hx a b with h | h
        · simp at h
        · exact .inr h
      · rintro m σ ⟨kvs, wk, hs, I, rfl, hm⟩
        have hroom := I.room
        rw [List.length_map] at hroom
        refine TV_cmp (EV_len T.len rfl (EAL_own hs.1 rfl ⟨by simp; omega, EV_int ⟨_, C_gt_int, ?_⟩⟩))
        simp only [List.length_map]
        rcases List.eq_nil_or_concat wk with rfl | ⟨wk', v, rfl⟩
        · simp only [List.length_nil]
          show XS _ _ _ _
          refine XS_weak [(seen_, .dct kvs)] ⟨hs.2.1, trivial⟩ ?_
          refine XS_cons (X_return (EV_of_EF (EF_sorted_dict T.sorted rfl T.mods rm.hh rfl rfl (by omega) fun ns hp hq => ⟨_, rfl, rfl, ns, rfl, ?_⟩)))
          exact SL.of_perm hp hq I.nd I.done
        · have hpos : decide ((0 : Int) < ((wk' ++ [v]).length : Nat)) = true := by simp
          rw [List.concat_eq_append] at *
          rw [hpos]
          simp only [if_true]
          rw [List.map_append] at hs
          refine XS_weak [(work_, .lst (wk'.map .int ++ [.int v])), (seen_, .dct kvs), (rows_, .val (rowsD rs))] ⟨hs.1, hs.2.1, hs.2.2.1, trivial⟩ ?_
          have hwl : wk'.length ≤ 200 := by simp at hm; omega
          refine XS_cons (X_assign (EV_pop rfl rfl (by simp; omega) ?_) rfl)
          have hv : Rch rs st v := I.ok v (.inr (by simp))
          obtain ⟨i, hi⟩ : ∃ i : Nat, v = (i : Int) := ⟨v.toNat, by have := hv.inside; omega⟩
          have hil : i < rs.length := by have := hv.inside; omega
          subst hi
          have hr : rs[i]? = some rs[i] := List.getElem?_eq_getElem hil
          generalize rs[i] = r at hr
          refine XS_cons (X_if (TV_cmpJ (CmpJ_dict (.inr rfl) T.mods rfl (EV_name rfl rfl ⟨_, kvs, rfl, rfl, ?_⟩))))
          simp only [reduceCtorEq, if_false]
          split <;> rename_i g1
          · have g1 : ¬ ((i : Int) ∈ kvs.map (·.1)) := fun q => by rw [any_key.mpr q] at g1; cases g1
            have hd : DK (fun x => x ∈ kvs.map (·.1)) kvs := ⟨I.nd, fun _ => Iff.rfl⟩
            have hd' : DK (fun x => x ∈ kvs.map (·.1) ∨ x = (i : Int)) (storedD kvs i (.bool true)) := hd.stored fun _ => Iff.rfl
            have hkl : (storedD kvs i (.bool true)).length = kvs.length + 1 := by
              have := congrArg List.length (stored_keys kvs i (.bool true))
              rw [if_neg g1] at this
              simpa using this
            have h2 := succL_len r rs.length i
            have h3 := callL_len r rs.length i
            have h2' : (srt (succL r rs.length i)).length ≤ 2 := by rw [(srt_perm _).length_eq]; exact h2
            refine XS_cons (X_setdict (kvs₀ := []) (EV_bool ⟨_, rfl, EV_name rfl rfl ⟨_, _, rfl, rfl, by omega, ?_⟩⟩) rfl)
            refine XS_cons (X_expr (EV_extend rfl rfl (EV_call2 N.h6 (successors_spec T N.toFns0 N.h6 hr (by omega)) (rm.le (by decide)) rfl rfl rfl rfl rfl ⟨_, _, rfl, rfl, by simp; omega, by simp; omega, ?_⟩)))
            refine XS_cons (X_expr (EV_extend rfl rfl (EV_call2 N.h7 (called_spec T N.toFns0 N.h7 hr (by omega)) (rm.le (by decide)) rfl rfl rfl rfl rfl ⟨_, _, rfl, rfl, by simp; omega, by simp; omega, ?_⟩)))
            have hI : RchI rs st ((storedD kvs (i : Int) (.bool true)).map (·.1)) (wk' ++ srt (succL r rs.length i) ++ callL r rs.length i) := by
              have hst : ∀ t, t ∈ srt (succL r rs.length i) ↔ t ∈ succL r rs.length i := fun t => (srt_perm _).mem_iff
              refine ⟨hd'.1, fun x hx => ?_, fun x hx a b => ?_, fun x hx r' hr' y hy => ?_⟩
              · rw [hd'.2] at hx
                rcases hx with (h | h) | h
                · exact I.ok x (.inl h)
                · rw [h]; exact hv
                · rcases List.mem_append.mp h with h | h
                  · rcases List.mem_append.mp h with h | h
                    · exact I.ok x (.inr (by simp [h]))
                    · exact .step (r := r) hv (by simpa using hr) (.inl (by simpa using (hst x).mp h))
                  · exact .step (r := r) hv (by simpa using hr) (.inr (by simpa using h))
              · rw [hd'.2]
                rcases I.st_ x hx a b with h | h
                · exact .inl (.inl h)
                · rcases List.mem_append.mp h with h | h
                  · exact .inr (by simp [h])
                  · exact .inl (.inr (by simpa using h))
              · rw [hd'.2] at hx ⊢
                rcases hx with h | h
                · rcases I.cl x h r' hr' y hy with h | h
                  · exact .inl (.inl h)
                  · rcases List.mem_append.mp h with h | h
                    · exact .inr (by simp [h])
                    · exact .inl (.inr (by simpa using h))
                · subst h
                  rw [Int.toNat_natCast] at hr' hy
                  rw [hr] at hr'; cases hr'
                  refine .inr ?_
                  rcases hy with h | h
                  · simp [(hst y).mpr h]
                  · simp [h]
            refine XS_nil (XS_nil ⟨_, ?_, _, wk' ++ srt (succL r rs.length i) ++ callL r rs.length i, ⟨by simp, rfl, rfl, trivial⟩, hI, rfl, ?_⟩)
            · rw [hkl]; simp at hm ⊢; have := hI.room; rw [List.length_map, hkl] at this; omega
            · rw [hkl]; simp at hm ⊢; have := hI.room; rw [List.length_map, hkl] at this; omega
          · have g1 : (i : Int) ∈ kvs.map (·.1) := any_key.mp (by simpa using g1)
            refine XS_nil (XS_nil ⟨_, ?_, kvs, wk', ⟨rfl, rfl, rfl, trivial⟩, ⟨I.nd, fun x hx => I.ok x (hx.imp id fun h => by simp [h]), fun x hx a b => ?_, fun x hx r' hr' y hy => ?_⟩, rfl, ?_⟩)
            · simp
            · rcases I.st_ x hx a b with h | h
              · exact .inl h
              · rcases List.mem_append.mp h with h | h
                · exact .inr h
                · rw [List.mem_singleton.mp h]; exact .inl g1
            · rcases I.cl x hx r' hr' y hy with h | h
              · exact .inl h
              · rcases List.mem_append.mp h with h | h
                · exact .inr h
                · rw [List.mem_singleton.mp h]; exact .inl g1
            · simp at hm; omega

structure Fns4 (S : Shared) extends Fns2 S where
  f12 : Addr
  h12 : HasFn S (Str.ofString "reach_rows") 12 f12
def backOf (rs : List Row) (x : Int) : Option (Int × Int) := match rs[x.toNat]? with
  | some r => if (r.nm == sB) = true ∧ r.canJump = true ∧ r.o < 0 then some (x, x + 1 + r.o) else none
  | none => none

set_option maxHeartbeats 8000000 in
theorem back_spec (T : Top0 S) (N : Fns4 S) {f : Addr} (H : HasFn S (Str.ofString "back_edges") 13 f) {rs : List Row} {st : List Int} (hn : rs.length ≤ 15) (hs : st.length ≤ 15) :
    Fn prog w S f 4 [rowsD rs, .list (st.map .int)] (fun d => ∃ ns, d = .list ((ns.filterMap (backOf rs)).map pairD) ∧ SL (Rch rs st) ns) := by
  obtain ⟨nm, qual, doc, pm, an, cdv, ct, fa⟩ := H.fd
  refine Fn_intro fa T.lim (fdOk2 (x := rows_) (y := starts_) (by decide +kernel) (by decide +kernel) (fun a b => rfl)) rfl fun A L rm => ?_
  refine XS_cons (X_own (EF_list (EVs_nil ⟨by simp, rfl, ?_⟩)) rfl)
  refine XS_cons (X_for_any rm.hh (fun ds k σ => ∃ ns, ds = ns.map PyData.int ∧ SL (Rch rs st) ns ∧ Sub [(found_, .lst (((ns.take k).filterMap (backOf rs)).map pairD)), (rows_, .val (rowsD rs))] σ)
    (EV_call2P N.h12 (reach_spec T N.toFns2 N.h12 hn hs) (rm.le (by decide)) rfl rfl rfl rfl rfl fun d ⟨ns, e, h⟩ => ⟨_, e, ns, rfl, h, rfl, rfl, trivial⟩) ?_ ?_ (.inl (by intro _ _; rfl)))
  · rintro ds k d σ hk ⟨ns, rfl, hns, hs⟩
    rw [List.getElem?_map] at hk
    obtain ⟨v, hv, rfl⟩ := Option.map_eq_some_iff.mp hk
    have hin := ((hns.2 v).mp (List.mem_of_getElem? hv)).inside
    have hlen : ns.length ≤ rs.length := nodup_in (hns.1.imp fun h => Int.ne_of_lt h) fun x hx => ((hns.2 x).mp hx).inside
    obtain ⟨i, hi⟩ : ∃ i : Nat, v = (i : Int) := ⟨v.toNat, by omega⟩
    subst hi
    have hil : i < rs.length := by omega
    have hr : rs[i]? = some rs[i] := List.getElem?_eq_getElem hil
    generalize rs[i] = r at hr
    refine AS_name rfl ?_
    refine XS_weak [(index_, .val (.int i)), (found_, .lst (((ns.take k).filterMap (backOf rs)).map pairD)), (rows_, .val (rowsD rs))] ⟨rfl, hs.1, hs.2.1, trivial⟩ ?_
    refine XS_cons (X_assign (EV_row rfl rfl rfl rfl hr (by omega) ?_) rfl)
    have hfl : ((ns.take k).filterMap (backOf rs)).length ≤ 15 := by
      have h1 := List.length_filterMap_le (backOf rs) (ns.take k)
      have h2 := List.length_take_le k ns
      have h3 : (ns.take k).length ≤ ns.length := by rw [List.length_take]; omega
      omega
    have no : ¬ ((r.nm == sB) = true ∧ r.canJump = true ∧ r.o < 0) → (ns.take (k + 1)).filterMap (backOf rs) = (ns.take k).filterMap (backOf rs) := fun q => by
      rw [List.take_add_one, hv, List.filterMap_append]
      have : backOf rs (i : Int) = none := by unfold backOf; rw [Int.toNat_natCast, hr]; simp only; rw [if_neg q]
      simp [this]
    refine XS_cons (X_if (TV_bool (TVs_and (TV_cmp (EV_fld rfl rfl (by decide) rfl (EV_str ⟨_, C_eq_str, ?_⟩))))))
    split <;> rename_i h1
    · refine TVs_and (TV_call N.h5 (can_jump_spec T N.h5 r) (rm.le (by decide)) rfl rfl rfl ?_)
      split <;> rename_i h2
      · refine TVs_and (TV_cmp (EV_call2 N.h3 (target_of_spec T N.h3 r i) (rm.le (by decide)) rfl rfl rfl rfl rfl (EV_name rfl rfl ⟨_, C_le_int, ?_⟩)))
        split <;> rename_i h3
        · refine TVs_nil ?_
          refine XS_cons (X_expr (EV_append rfl rfl (EV_tuple (EVs_cons (EV_name rfl rfl (EVs_cons (EV_call2 N.h3 (target_of_spec T N.h3 r i) (rm.le (by decide)) rfl rfl rfl rfl rfl (EVs_nil ⟨by simp, _, rfl, by simp; omega, XS_nil (XS_nil ⟨ns, rfl, hns, ?_, rfl, trivial⟩)⟩))))))))
          have h3 := of_decide_eq_true h3
          have : backOf rs (i : Int) = some ((i : Int), (i : Int) + 1 + r.o) := by unfold backOf; rw [Int.toNat_natCast, hr]; simp only; rw [if_pos ⟨h1, h2, by omega⟩]
          rw [List.take_add_one, hv, List.filterMap_append, List.map_append]
          simp [this]
        · refine XS_nil (XS_nil ⟨ns, rfl, hns, ?_, rfl, trivial⟩)
          have h3 : ¬ _ := fun q => h3 (decide_eq_true q)
          rw [no fun q => h3 (by omega)]; rfl
      · refine XS_nil (XS_nil ⟨ns, rfl, hns, ?_, rfl, trivial⟩)
        rw [no fun q => h2 q.2.1]; rfl
    · refine XS_nil (XS_nil ⟨ns, rfl, hns, ?_, rfl, trivial⟩)
      rw [no fun q => h1 q.1]; rfl
  · rintro ds σ ⟨ns, rfl, hns, hs⟩
    rw [List.length_map, List.take_length] at hs
    show XS _ _ _ _
    refine XS_weak [(found_, .lst ((ns.filterMap (backOf rs)).map pairD))] ⟨hs.1, trivial⟩ ?_
    exact XS_cons (X_return (EV_freeze rfl rfl ⟨ns, rfl, hns⟩))
end
end

/-! # part W -/
section

def Fed (ns : List Int) : Prop := ns.length ≤ 160 ∧ ∀ x ∈ ns, 0 ≤ x ∧ x ≤ 1023
def RowOk (r : Row) : Prop := (r.nm == sTRAP) = true → 0 ≤ r.o

theorem sliceD_eq {α : Type} (xs : List α) (lo hi : Option Int) : sliceD xs lo hi = (xs.drop (lo.elim 0 (clipAt xs.length))).take (hi.elim xs.length (clipAt xs.length) - lo.elim 0 (clipAt xs.length)) := by
  unfold sliceD
  rw [sliceBounds_plain]
  dsimp only
  rw [sliceRange_one]
  generalize lo.elim 0 (clipAt xs.length) = a
  generalize hi.elim xs.length (clipAt xs.length) - a = m
  induction m with
  | zero => simp
  | succ m ih =>
    rw [List.range_succ, List.map_append, List.filterMap_append, ih, List.take_add_one, List.getElem?_drop]
    cases h : xs[a + m]? with
    | none => simp [h]
    | some v => simp [h]
theorem sliceD_map {α β : Type} (g : α → β) (xs : List α) (lo hi : Option Int) : sliceD (xs.map g) lo hi = (sliceD xs lo hi).map g := by
  rw [sliceD_eq, sliceD_eq, List.length_map, List.map_take, List.map_drop]
theorem sliceD_mem {α : Type} {xs : List α} {lo hi : Option Int} {x : α} (h : x ∈ sliceD xs lo hi) : x ∈ xs := by
  rw [sliceD_eq] at h
  exact List.mem_of_mem_drop (List.mem_of_mem_take h)
theorem sliceD_len {α : Type} (xs : List α) (k : Nat) : (sliceD xs none (some (k : Int))).length ≤ k := by
  rw [sliceD_eq, List.length_take]
  have := clipAt_cast xs.length (k : Int)
  simp only [Option.elim]
  omega
theorem sliceD_tail {α : Type} (xs : List α) : sliceD xs (some 1) none = xs.drop 1 := by
  rw [sliceD_eq]
  simp only [Option.elim]
  have := clipAt_cast xs.length 1
  by_cases h : 1 ≤ xs.length
  · have e : clipAt xs.length 1 = 1 := by omega
    rw [e, List.take_of_length_le (by simp)]
  · have : xs = [] := List.length_eq_zero_iff.mp (by omega)
    subst this; simp

abbrev next_ : Str := Str.ofString "_law_next"
structure LawA (S : Shared) : Prop where
  next : ∃ f, HasFn S next_ 16 f
section
variable {prog : Program} {w : World} {S : Shared} {c : Cx} {σ : St}

set_option maxHeartbeats 2000000 in
theorem next_spec (T : Top0 S) {f : Addr} (H : HasFn S next_ 16 f) {ns : List Int} (hF : Fed ns) : FnMut prog w S f 1 ns [] (fun d ns' => ∃ v, d = .int v ∧ 0 ≤ v ∧ v ≤ 1023 ∧ Fed ns') := by
  obtain ⟨nm, qual, doc, pm, an, cdv, ct, fa⟩ := H.fd
  refine FnMut_intro (x := row_) (xs := []) fa T.lim (fdOk1 (x := row_) (by decide +kernel) (by decide +kernel) (fun a => rfl)) rfl rfl fun A L u rm => ?_
  refine XSP_cons (X1P_return (EV_ifexp (TV_cmpJ (CmpJ_ne_nil (ns := ns) rfl rfl (by have := rm.hu; unfold cLine; omega) ?_))))
  rcases List.eq_nil_or_concat ns with rfl | ⟨ns', v, rfl⟩
  · simp only [decide_true, Bool.not_true, Bool.false_eq_true, if_false]
    exact EV_int ⟨[], rfl, 0, rfl, by omega, by omega, by simp [Fed]⟩
  · rw [List.concat_eq_append] at *
    have : decide (ns' ++ [v] = []) = false := by simp
    rw [this]
    simp only [Bool.not_false, if_true]
    have hv := hF.2 v (by simp)
    have hl := hF.1
    simp at hl
    refine EV_pop (ds := ns'.map .int) (d := .int v) (by rw [List.map_append]; rfl) rfl (by simp; omega) ?_
    exact ⟨ns', rfl, v, rfl, hv.1, hv.2, by omega, fun x hx => hF.2 x (by simp [hx])⟩

theorem fmod_pos (a : Int) {m : Int} (h : 0 < m) : 0 ≤ Int.fmod a m ∧ Int.fmod a m < m := ⟨Int.fmod_nonneg_of_pos a h, Int.fmod_lt_of_pos a h⟩

/-- the next figure of the row -/
theorem EV_next (T : Top0 c.S) {f : Addr} (H : HasFn c.S next_ 16 f) {np yp pos : Pos} {ns : List Int} {Q : PyData → St → Prop} (hF : Fed ns) (rm : c.Room 1) (hx : IsGlob c.env next_ = true) (hσ : σ.lookup row_ = some (.lst (ns.map .int))) (hy : IsVar c.env row_ = true)
    (h : ∀ v ns', 0 ≤ v → v ≤ 1023 → Fed ns' → Q (.int v) ((row_, .lst (ns'.map .int)) :: σ)) : EV c (.Call (.Name next_ np) [.Name row_ yp] [] pos) σ Q := by
  obtain ⟨nm, qual, doc, pm, an, cdv, ct, fa⟩ := H.fd
  refine EV_callmut H.g fa rm hx hσ hy (EVs_nil ⟨ns, hσ, _, next_spec T H hF, fun d ns' ⟨v, e, a, b, k⟩ => ?_⟩)
  subst e
  exact h v ns' a b k
theorem EV_nextmod (T : Top0 c.S) {f : Addr} (H : HasFn c.S next_ 16 f) {np yp pos cp bp : Pos} {ck : Nat} {m : Int} {ns : List Int} {Q : PyData → St → Prop} (hF : Fed ns) (rm : c.Room 1) (hx : IsGlob c.env next_ = true) (hσ : σ.lookup row_ = some (.lst (ns.map .int))) (hy : IsVar c.env row_ = true) (hm : 0 < m)
    (h : ∀ v ns', 0 ≤ v → v < m → Fed ns' → Q (.int v) ((row_, .lst (ns'.map .int)) :: σ)) : EV c (.BinOp (.Call (.Name next_ np) [.Name row_ yp] [] pos) .Mod (.Constant (.int m) ck cp) bp) σ Q :=
  EV_bin (EV_next T H hF rm hx hσ hy fun v ns' a b k => EV_int ⟨_, B_mod (by omega), h _ ns' (fmod_pos v hm).1 (fmod_pos v hm).2 k⟩)
theorem EV_int_of {e : Expr} {Q : PyData → St → Prop} (h : EV c e σ (fun d σ' => ∃ i : Int, d = .int i ∧ σ' = σ)) (k : ∀ i : Int, Q (.int i) σ) : EV c e σ Q := EV.mono h fun d σ' ⟨i, e, e'⟩ => by rw [e, e']; exact k i
/-- one of a menu -/
theorem EV_pick (T : Top0 c.S) {f : Addr} (H : HasFn c.S next_ 16 f) {np yp pos cp bp sp : Pos} {ck : Nat} {m : Int} {ns : List Int} {e : Expr} {ds : List PyData} {Q : PyData → St → Prop} (he : EV c e σ (fun d σ' => d = .list ds ∧ σ' = σ)) (hF : Fed ns) (rm : c.Room 1) (hx : IsGlob c.env next_ = true) (hσ : σ.lookup row_ = some (.lst (ns.map .int))) (hy : IsVar c.env row_ = true)
    (hm : 0 < m) (hl : (ds.length : Int) = m) (hb : m < 100)
    (h : ∀ d ns', d ∈ ds → Fed ns' → Q d ((row_, .lst (ns'.map .int)) :: σ)) (hs : ∀ (o : Value) (k : Int) (u : Tok), subscripted (.BinOp (.Call (.Name next_ np) [.Name row_ yp] [] pos) .Mod (.Constant (.int m) ck cp) bp) false o (.int k u) = operate [o, .int k u] (getItem o (.int k u)) := by intro _ _ _; with_unfolding_all rfl) :
    EV c (.Subscript e (.BinOp (.Call (.Name next_ np) [.Name row_ yp] [] pos) .Mod (.Constant (.int m) ck cp) bp) sp) σ Q := by
  refine EV_item_list (EV.mono he ?_) hs
  rintro d σ' ⟨rfl, rfl⟩
  refine EV_nextmod T H hF rm hx hσ hy hm fun v ns' a b k => ?_
  have hv : v.toNat < ds.length := by omega
  exact ⟨ds, v, ds[v.toNat], rfl, rfl, a, by omega, List.getElem?_eq_getElem hv, h _ ns' (List.getElem_mem hv) k⟩
theorem EVs_strs {es : List Expr} {xs : List Str} (h : EVs c es σ (fun ds σ' => ds = xs.map PyData.str ∧ σ' = σ)) {p : Pos} (hl : xs.length ≤ 1000) (ht : σ.lookup tmp = none) : EV c (.List es p) σ (fun d σ' => d = .list (xs.map .str) ∧ σ' = σ) :=
  EV_of_EF (EF_list (fun pos m p z s R => wpAny_mono (h pos m p z s R) (fun vs s' ⟨z', ds, σ', g, R', r, e, e'⟩ => ⟨z', ds, σ', g, R', r, by rw [e]; simp; omega, ds, rfl, by rw [e']; exact ht, by rw [e], e'⟩) fun _ _ x => x))
theorem EVs_ints {es : List Expr} {xs : List Int} (h : EVs c es σ (fun ds σ' => ds = xs.map PyData.int ∧ σ' = σ)) {p : Pos} (hl : xs.length ≤ 1000) (ht : σ.lookup tmp = none) : EV c (.List es p) σ (fun d σ' => d = .list (xs.map .int) ∧ σ' = σ) :=
  EV_of_EF (EF_list (fun pos m p z s R => wpAny_mono (h pos m p z s R) (fun vs s' ⟨z', ds, σ', g, R', r, e, e'⟩ => ⟨z', ds, σ', g, R', r, by rw [e]; simp; omega, ds, rfl, by rw [e']; exact ht, by rw [e], e'⟩) fun _ _ x => x))
end

abbrev many_ : Str := Str.ofString "many"
abbrev kind_ : Str := Str.ofString "kind"
abbrev r_ : Str := Str.ofString "r"
abbrev a_ : Str := Str.ofString "a"
abbrev b_ : Str := Str.ofString "b"
abbrev cond_ : Str := Str.ofString "cond"
abbrev name_ : Str := Str.ofString "name"
def menu1 : List Str := [Str.ofString "MOV", Str.ofString "ADD", Str.ofString "SUB", Str.ofString "MUL", Str.ofString "DIV", Str.ofString "LSL", Str.ofString "AND"]
def menu2 : List Str := [Str.ofString "MOVI", Str.ofString "ADDI", Str.ofString "SUBI", Str.ofString "MULI", Str.ofString "DIVI", Str.ofString "MOVH", Str.ofString "GETH"]
def menu3 : List Str := [Str.ofString "LDR", Str.ofString "LDB"]
def menu4 : List Str := [Str.ofString "STR", Str.ofString "STB"]
theorem menu_ok {xs : List Str} (h : (xs.all fun x => !(x == sTRAP) && decide (x.length ≤ 1000)) = true) {x : Str} (hx : x ∈ xs) : (x == sTRAP) = false ∧ x.length ≤ 100000 := by
  have := List.all_eq_true.mp h x hx
  simp only [Bool.and_eq_true, Bool.not_eq_true', decide_eq_true_eq] at this
  exact ⟨this.1, by omega⟩
theorem rowOk_of {x : Str} {cd : Str ⊕ Int} {o k : Int} (h : (x == sTRAP) = false) : RowOk ⟨x, cd, o, k⟩ := fun q => by rw [show ((⟨x, cd, o, k⟩ : Row).nm == sTRAP) = (x == sTRAP) from rfl, h] at q; cases q
def regs : List Int := [0, 1, 2, 3, 11, 15, 14, 10]
def conds : List Str := [Str.ofString "AL", Str.ofString "AL", Str.ofString "EQ", Str.ofString "LT", Str.ofString "NV", Str.ofString "AL"]

section
variable {prog : Program} {w : World} {S : Shared} {c : Cx} {σ : St}
set_option maxHeartbeats 8000000 in
theorem made_spec (T : Top0 S) {g f : Addr} (G : HasFn S next_ 16 g) (H : HasFn S (Str.ofString "_law_made") 17 f) {ns : List Int} (hF : Fed ns) {many : Int} (hm : 0 ≤ many ∧ many < 100) :
    FnMut prog w S f 2 ns [.int many] (fun d ns' => ∃ r : Row, d = r.d ∧ RowOk r ∧ Fed ns') := by
  obtain ⟨nm, qual, doc, pm, an, cdv, ct, fa⟩ := H.fd
  refine FnMut_intro (x := row_) (xs := [many_]) fa T.lim (fdOk2 (x := row_) (y := many_) (by decide +kernel) (by decide +kernel) (fun a b => rfl)) rfl rfl fun A L u rm => ?_
  refine XSP_cons (X1P_assign (EV_nextmod T G hF (rm.le (by decide)) rfl rfl rfl (by decide) fun kind n1 k1 k2 F1 => ?_) rfl rfl)
  refine XSP_cons (X1P_assign (EV_of_EF (EF_list (EVs_cons (EV_int (EVs_cons (EV_int (EVs_cons (EV_int (EVs_cons (EV_int (EVs_cons (EV_int (EVs_cons (EV_int (EVs_cons (EV_int (EVs_cons (EV_int (EVs_nil ⟨by simp, _, rfl, rfl, ?_⟩))))))))))))))))))) rfl rfl)
  refine XSP_cons (X1P_assign (EV_pick T G (ds := regs.map .int) (EV_name rfl rfl ⟨rfl, rfl⟩) F1 (rm.le (by decide)) rfl rfl rfl (by decide) rfl (by decide) fun d n2 hd F2 => ?_) rfl rfl)
  obtain ⟨va, ha, rfl⟩ := List.mem_map.mp hd
  refine XSP_cons (X1P_assign (EV_pick T G (ds := regs.map .int) (EV_name rfl rfl ⟨rfl, rfl⟩) F2 (rm.le (by decide)) rfl rfl rfl (by decide) rfl (by decide) fun d n3 hd F3 => ?_) rfl rfl)
  obtain ⟨vb, hb, rfl⟩ := List.mem_map.mp hd
  refine XSP_cons (X1P_assign (EV_pick T G (ds := conds.map .str) (EVs_strs (EVs_cons (EV_str (EVs_cons (EV_str (EVs_cons (EV_str (EVs_cons (EV_str (EVs_cons (EV_str (EVs_cons (EV_str (EVs_nil ⟨rfl, rfl⟩))))))))))))) (by decide) rfl) F3 (rm.le (by decide)) rfl rfl rfl (by decide) rfl (by decide) fun d n4 hd F4 => ?_) rfl rfl)
  obtain ⟨vc, hc, rfl⟩ := List.mem_map.mp hd
  refine XSP.weak (σ' := [(row_, .lst (n4.map .int)), (cond_, .val (.str vc)), (b_, .val (.int vb)), (a_, .val (.int va)), (r_, .val (.list (regs.map .int))), (kind_, .val (.int kind)), (many_, .val (.int many))]) ?_ ?_
  · refine XSP_cons (X1P_if (TV_cmp (EV_name rfl rfl (EV_int ⟨_, C_lt_int, ?_⟩))))
    split
    · refine XSP_cons (X1P_assign (EV_pick T G (ds := menu1.map .str) (EVs_strs (EVs_cons (EV_str (EVs_cons (EV_str (EVs_cons (EV_str (EVs_cons (EV_str (EVs_cons (EV_str (EVs_cons (EV_str (EVs_cons (EV_str (EVs_nil ⟨rfl, rfl⟩))))))))))))))) (by decide) rfl) F4 (rm.le (by decide)) rfl rfl rfl (by decide) rfl (by decide) fun d n5 hd F5 => ?_) rfl rfl)
      obtain ⟨x, hx, rfl⟩ := List.mem_map.mp hd
      have hx' := menu_ok (xs := menu1) rfl hx
      refine XSP_cons (X1P_return (EV_tuple (EVs_cons (EV_name rfl rfl (EVs_cons (EV_name rfl rfl (EVs_cons (EV_int_of (EV_ifexp (TV_cmp (EV_name rfl rfl (EV_str ⟨_, C_eq_str, ?_⟩)))) fun i => EVs_cons (EV_pick T G (ds := regs.map .int) (EV_name rfl rfl ⟨rfl, rfl⟩) F5 (rm.le (by decide)) rfl rfl rfl (by decide) rfl (by decide) fun d n6 hd F6 => ?_)))))))))
      · split
        · exact EV_int ⟨_, rfl, rfl⟩
        · exact EV_name rfl rfl ⟨_, rfl, rfl⟩
      · obtain ⟨v, hv, rfl⟩ := List.mem_map.mp hd
        exact EVs_nil ⟨by simp, n6, rfl, ⟨x, .inr va, i, v⟩, rfl, rowOk_of hx'.1, F6⟩
    · refine XSP_nil ?_
      refine XSP_cons (X1P_if (TV_cmp (EV_name rfl rfl (EV_int ⟨_, C_lt_int, ?_⟩))))
      split
      · refine XSP_cons (X1P_assign (EV_pick T G (ds := menu2.map .str) (EVs_strs (EVs_cons (EV_str (EVs_cons (EV_str (EVs_cons (EV_str (EVs_cons (EV_str (EVs_cons (EV_str (EVs_cons (EV_str (EVs_cons (EV_str (EVs_nil ⟨rfl, rfl⟩))))))))))))))) (by decide) rfl) F4 (rm.le (by decide)) rfl rfl rfl (by decide) rfl (by decide) fun d n5 hd F5 => ?_) rfl rfl)
        obtain ⟨x, hx, rfl⟩ := List.mem_map.mp hd
        have hx' := menu_ok (xs := menu2) rfl hx
        refine XSP_cons (X1P_return (EV_tuple (EVs_cons (EV_name rfl rfl (EVs_cons (EV_name rfl rfl (EVs_cons (EV_int_of (EV_ifexp (TV_bool (TVs_or (TV_cmp (EV_cut (EV_name rfl rfl ⟨x, rfl, hx'.2, EV_str ⟨_, C_eq_str, ?_⟩⟩)))))) fun i => EVs_cons (EV_ifexp (TV_cmp (EV_name rfl rfl (EV_str ⟨_, C_eq_str, ?_⟩))))))))))))
        · split
          · exact EV_int ⟨_, rfl, rfl⟩
          · refine TVs_or (TV_cmp (EV_name rfl rfl (EV_str ⟨_, C_eq_str, ?_⟩)))
            split
            · exact EV_int ⟨_, rfl, rfl⟩
            · exact TVs_nil (EV_name rfl rfl ⟨_, rfl, rfl⟩)
        · split
          · exact EV_int (EVs_nil ⟨by simp, n5, rfl, ⟨x, .inr va, i, 0⟩, rfl, rowOk_of hx'.1, F5⟩)
          · exact EV_next T G F5 (rm.le (by decide)) rfl rfl rfl fun v n6 _ _ F6 => EVs_nil ⟨by simp, n6, rfl, ⟨x, .inr va, i, v⟩, rfl, rowOk_of hx'.1, F6⟩
      · refine XSP_nil ?_
        refine XSP_cons (X1P_if (TV_cmp (EV_name rfl rfl (EV_int ⟨_, C_eq_int, ?_⟩))))
        split
        · refine XSP_cons (X1P_return (EV_tuple (EVs_cons (EV_pick T G (ds := menu3.map .str) (EVs_strs (EVs_cons (EV_str (EVs_cons (EV_str (EVs_nil ⟨rfl, rfl⟩))))) (by decide) rfl) F4 (rm.le (by decide)) rfl rfl rfl (by decide) rfl (by decide) fun d n5 hd F5 => ?_))))
          obtain ⟨x, hx, rfl⟩ := List.mem_map.mp hd
          have hx' := menu_ok (xs := menu3) rfl hx
          refine EVs_cons (EV_name rfl rfl (EVs_cons (EV_name rfl rfl (EVs_cons (EV_bin (EV_int (EV_next T G F5 (rm.le (by decide)) rfl rfl rfl fun v n6 _ _ F6 => ⟨_, B_mul (.of_left (intBits_le_64 (by decide) (by decide))), EVs_nil ⟨by simp, n6, rfl, ⟨x, .inr va, vb, 4 * v⟩, rfl, rowOk_of hx'.1, F6⟩⟩)))))))
        · refine XSP_nil ?_
          refine XSP_cons (X1P_if (TV_cmp (EV_name rfl rfl (EV_int ⟨_, C_eq_int, ?_⟩))))
          split
          · refine XSP_cons (X1P_return (EV_tuple (EVs_cons (EV_pick T G (ds := menu4.map .str) (EVs_strs (EVs_cons (EV_str (EVs_cons (EV_str (EVs_nil ⟨rfl, rfl⟩))))) (by decide) rfl) F4 (rm.le (by decide)) rfl rfl rfl (by decide) rfl (by decide) fun d n5 hd F5 => ?_))))
            obtain ⟨x, hx, rfl⟩ := List.mem_map.mp hd
            have hx' := menu_ok (xs := menu4) rfl hx
            refine EVs_cons (EV_name rfl rfl (EVs_cons (EV_name rfl rfl (EVs_cons (EV_bin (EV_int (EV_next T G F5 (rm.le (by decide)) rfl rfl rfl fun v n6 _ _ F6 => ⟨_, B_mul (.of_left (intBits_le_64 (by decide) (by decide))), EVs_nil ⟨by simp, n6, rfl, ⟨x, .inr va, vb, 4 * v⟩, rfl, rowOk_of hx'.1, F6⟩⟩)))))))
          · refine XSP_nil ?_
            refine XSP_cons (X1P_if (TV_cmp (EV_name rfl rfl (EV_int ⟨_, C_lt_int, ?_⟩))))
            split
            · refine XSP_cons (X1P_return (EV_tuple (EVs_cons (EV_str (EVs_cons (EV_name rfl rfl (EVs_cons (EV_bin (EV_bin (EV_bin (EV_next T G F4 (rm.le (by decide)) rfl rfl rfl fun v n5 _ _ F5 => EV_bin (EV_name rfl rfl (EV_int ⟨_, B_add, ⟨_, B_mod (by omega), EV_bin (EV_name rfl rfl (EV_int ⟨_, B_div (by decide) (PyProof.noPylong_small (by decide)), ⟨_, B_sub, EV_int ⟨_, B_sub, ?_⟩⟩⟩))⟩⟩)))))))))))))
              exact EVs_cons (EV_int (EVs_nil ⟨by simp, n5, rfl, ⟨sB, .inl vc, _, 0⟩, rfl, rowOk_of rfl, F5⟩))
            · refine XSP_nil ?_
              refine XSP_cons (X1P_if (TV_cmp (EV_name rfl rfl (EV_int ⟨_, C_eq_int, ?_⟩))))
              split
              · refine XSP_cons (X1P_return (EV_item_list (EV_of_EF (EF_list ?_))))
                refine EVs_cons (EV_tuple ?_)
                refine EVs_cons (EV_str (EVs_cons (EV_name rfl rfl (EVs_cons (EV_bin (EV_nextmod T G F4 (rm.le (by decide)) rfl rfl rfl (by decide) fun v n5 _ _ F5 => EV_int ⟨_, B_sub, ?_⟩))))))
                refine EVs_cons (EV_int (EVs_nil ⟨by simp, ?_⟩))
                refine EVs_cons (EV_tuple ?_)
                refine EVs_cons (EV_str (EVs_cons (EV_name rfl rfl (EVs_cons (EV_name rfl rfl (EVs_cons (EV_int (EVs_nil ⟨by simp, ?_⟩))))))))
                refine EVs_nil ⟨by simp, _, rfl, rfl, ?_⟩
                refine EV_nextmod T G F5 (rm.le (by decide)) rfl rfl rfl (by decide) fun v2 n6 v3 v4 F6 => ?_
                have : v2 = 0 ∨ v2 = 1 := by omega
                rcases this with rfl | rfl
                · exact ⟨_, _, _, rfl, rfl, by decide, by decide, rfl, n6, rfl, ⟨sBL, .inl vc, _, 0⟩, rfl, rowOk_of rfl, F6⟩
                · exact ⟨_, _, _, rfl, rfl, by decide, by decide, rfl, n6, rfl, ⟨Str.ofString "BLR", .inl vc, vb, 0⟩, rfl, rowOk_of rfl, F6⟩
              · refine XSP_nil ?_
                refine XSP_cons (X1P_if (TV_cmp (EV_name rfl rfl (EV_int ⟨_, C_eq_int, ?_⟩))))
                split
                · refine XSP_cons (X1P_return (EV_tuple (EVs_cons (EV_str (EVs_cons (EV_name rfl rfl (EVs_cons (EV_pick T G (ds := ([15, 15, 3] : List Int).map .int) (EVs_ints (EVs_cons (EV_int (EVs_cons (EV_int (EVs_cons (EV_int (EVs_nil ⟨rfl, rfl⟩))))))) (by decide) rfl) F4 (rm.le (by decide)) rfl rfl rfl (by decide) rfl (by decide) fun d n5 hd F5 => ?_))))))))
                  obtain ⟨v, hv, rfl⟩ := List.mem_map.mp hd
                  exact EVs_cons (EV_int (EVs_nil ⟨by simp, n5, rfl, ⟨sBR, .inl vc, v, 0⟩, rfl, rowOk_of rfl, F5⟩))
                · refine XSP_nil ?_
                  refine XSP_cons (X1P_return (EV_tuple (EVs_cons (EV_str (EVs_cons (EV_name rfl rfl (EVs_cons (EV_pick T G (ds := ([0, 0, 0, 4] : List Int).map .int) (EVs_ints (EVs_cons (EV_int (EVs_cons (EV_int (EVs_cons (EV_int (EVs_cons (EV_int (EVs_nil ⟨rfl, rfl⟩))))))))) (by decide) rfl) F4 (rm.le (by decide)) rfl rfl rfl (by decide) rfl (by decide) fun d n5 hd F5 => ?_))))))))
                  obtain ⟨v, hv, rfl⟩ := List.mem_map.mp hd
                  have hv0 : 0 ≤ v := (by decide : ∀ x ∈ ([0, 0, 0, 4] : List Int), 0 ≤ x) v hv
                  refine EVs_cons (EV_pick T G (ds := ([1, 2, 9, 3] : List Int).map .int) (EVs_ints (EVs_cons (EV_int (EVs_cons (EV_int (EVs_cons (EV_int (EVs_cons (EV_int (EVs_nil ⟨rfl, rfl⟩))))))))) (by decide) rfl) F5 (rm.le (by decide)) rfl rfl rfl (by decide) rfl (by decide) fun d n6 hd F6 => ?_)
                  obtain ⟨v2, hv2, rfl⟩ := List.mem_map.mp hd
                  exact EVs_nil ⟨by simp, n6, rfl, ⟨sTRAP, .inl vc, v, v2⟩, rfl, fun _ => hv0, F6⟩
  · refine Sub.lookup (σm := [(row_, .lst (n4.map .int)), (cond_, .val (.str vc)), (b_, .val (.int vb)), (a_, .val (.int va)), (r_, .val (.list (regs.map .int))), (kind_, .val (.int kind)), (many_, .val (.int many))]) ⟨rfl, rfl, rfl, rfl, rfl, rfl, rfl, trivial⟩
end
end

/-! # part X -/
section

abbrev at_ : Str := Str.ofString "at"
abbrev ends_ : Str := Str.ofString "ends"
abbrev goal_ : Str := Str.ofString "goal"
def Row.lends (r : Row) : Bool := ((r.nm == sB || r.nm == sBR) && r.is sAL) || (r.nm == sTRAP && (r.is sAL && (decide (0 < r.o) || r.k == 9)))
theorem lends_falls {r : Row} (h : RowOk r) : r.lends = !r.falls := by
  unfold Row.lends Row.falls
  unfold RowOk at h
  cases h1 : (r.nm == sB || r.nm == sBR) with
  | true =>
    have h2 : (r.nm == sTRAP) = false := by
      rcases Bool.or_eq_true_iff.mp h1 with q | q
      · rw [eq_of_beq q]; rfl
      · rw [eq_of_beq q]; rfl
    simp [h2]
  | false =>
    cases h2 : r.nm == sTRAP with
    | false => simp
    | true =>
      have h3 := h h2
      cases h4 : r.is sAL with
      | false => simp
      | true =>
        simp only [Bool.false_and, Bool.true_and, Bool.false_or, Bool.and_true, Bool.false_eq_true, if_false, if_true]
        by_cases h5 : r.o = 0
        · simp [h5, bne]
        · have : (0 : Int) < r.o := by omega
          simp [this, h5]

section
variable {prog : Program} {w : World} {S : Shared} {c : Cx} {σ : St}
/-- rows[at][i] -/
theorem EV_cell {x y : Str} {xp yp p1 cp pos : Pos} {ck : Nat} {k : Int} {rs : List Row} {i : Nat} {r : Row} {d : PyData} {Q : PyData → St → Prop} (h1 : σ.lookup x = some (.val (rowsD rs))) (hx : IsVar c.env x = true) (h2 : σ.lookup y = some (.val (.int i))) (hy : IsVar c.env y = true) (hr : rs[i]? = some r) (hn : rs.length ≤ 100)
    (h0 : 0 ≤ k ∧ k < 4) (hd : [PyData.str r.nm, r.cdD, .int r.o, .int r.k][k.toNat]? = some d) (h : Q d σ) : EV c (.Subscript (.Subscript (.Name x xp) (.Name y yp) p1) (.Constant (.int k) ck cp) pos) σ Q := by
  refine EV_item_tup (EV_row h1 hx h2 hy hr hn (EV_int ⟨_, _, d, rfl, rfl, h0.1, by omega, hd, h⟩))
theorem EV_bool_of {e : Expr} {x : Bool} {Q : PyData → St → Prop} (h : EV c e σ (fun d σ' => d = .bool x ∧ σ' = σ)) (k : Q (.bool x) σ) : EV c e σ Q := EV.mono h fun d σ' ⟨e, e'⟩ => by rw [e, e']; exact k
theorem or_f {b : Bool} (h : (b == (BoolOp.Or == BoolOp.And)) = true) : b = false := eq_of_beq h
theorem or_t {b : Bool} (h : ¬ (b == (BoolOp.Or == BoolOp.And)) = true) : b = true := by
  cases b
  · exact absurd rfl h
  · rfl
theorem str_comm (a b : Str) : (a == b) = (b == a) := by
  by_cases h : a = b
  · rw [h]
  · rw [beq_eq_false_iff_ne.mpr h, beq_eq_false_iff_ne.mpr (Ne.symm h)]
theorem any_two (a b k : Str) : ([a, b].any fun x => x == k) = (k == a || k == b) := by
  rw [List.any_cons, List.any_cons, List.any_nil, Bool.or_false, str_comm a k, str_comm b k]
theorem B_in_strs2 {a b k : Str} : BinR c (compareOp .In) (.str k) (.tuple [.str a, .str b]) (.bool (k == a || k == b)) :=
  any_two a b k ▸ B_in_strs (c := c) (xs := [a, b]) (k := k)

set_option maxHeartbeats 8000000 in
theorem onward_spec (T : Top0 S) {f : Addr} (H : HasFn S (Str.ofString "_law_onward") 18 f) {rs : List Row} {i : Nat} {r : Row} (hr : rs[i]? = some r) (hn : rs.length ≤ 15) (ho : RowOk r) :
    Fn prog w S f 1 [rowsD rs, .int i] (fun d => d = intsD (srt (succL r rs.length i))) := by
  obtain ⟨nm, qual, doc, pm, an, cdv, ct, fa⟩ := H.fd
  refine Fn_intro fa T.lim (fdOk2 (x := rows_) (y := at_) (by decide +kernel) (by decide +kernel) (fun a b => rfl)) rfl fun A L rm => ?_
  have hi : i < rs.length := (List.getElem?_eq_some_iff.mp hr).1
  refine XS_cons (X_swapped rm.hh rfl rfl (EVs_cons (EV_cell rfl rfl rfl rfl hr (by omega) (by decide) rfl (EVs_cons (EV_cell rfl rfl rfl rfl hr (by omega) (by decide) rfl (EVs_nil ⟨_, _, rfl, ?_⟩))))))
  refine XS_cons (X_own (EF_list (EVs_nil ⟨by simp, rfl, ?_⟩)) rfl)
  refine XS_cons (X_assign (EV_bool_of (x := r.lends) (EV_bool_op (EBs_more (EV_bool_of (x := (r.nm == sB || r.nm == sBR) && r.is sAL) (EV_bool_op (EBs_more (EV_cmp (EV_name rfl rfl (EV_tuple (EVs_cons (EV_str (EVs_cons (EV_str (EVs_nil ⟨by simp, _, B_in_strs2, _, rfl, ?_⟩)))))))))) ?_))) ?_) rfl)
  · split <;> rename_i h1
    · refine EBs_one (EV_cmp (EV_name rfl rfl (EV_str ⟨_, C_eq_cd, ?_, rfl⟩)))
      rw [show (r.nm == sB || r.nm == sBR) = true from by simpa using h1]; rfl
    · refine ⟨?_, rfl⟩
      rw [show (r.nm == sB || r.nm == sBR) = false from by
        cases q : (r.nm == sB || r.nm == sBR)
        · rfl
        · rw [q] at h1; exact absurd rfl h1]; rfl
  · refine ⟨_, rfl, ?_⟩
    split <;> rename_i h1
    · have h1 := or_f h1
      refine EBs_one (EV_bool_op (EBs_more (EV_cmp (EV_name rfl rfl (EV_str ⟨_, C_eq_str, _, rfl, ?_⟩)))))
      split <;> rename_i h2
      · have h2 : (r.nm == sTRAP) = true := by simpa using h2
        refine EBs_more (EV_cmp (EV_name rfl rfl (EV_str ⟨_, C_eq_cd, _, rfl, ?_⟩)))
        split <;> rename_i h3
        · have h3 : r.is sAL = true := by simpa using h3
          refine EBs_one (EV_bool_op (EBs_more (EV_cmp (EV_cell rfl rfl rfl rfl hr (by omega) (by decide) rfl (EV_int ⟨_, C_gt_int, _, rfl, ?_⟩)))))
          split <;> rename_i h4
          · have h4 := or_f h4
            refine EBs_one (EV_cmp (EV_cell rfl rfl rfl rfl hr (by omega) (by decide) rfl (EV_int ⟨_, C_eq_int, ?_, rfl⟩)))
            unfold Row.lends; rw [h1, h2, h3, h4]; simp
          · have h4 := or_t h4
            refine ⟨?_, rfl⟩
            unfold Row.lends; rw [h1, h2, h3, h4]; simp
        · have h3 : r.is sAL = false := by simpa using h3
          refine ⟨?_, rfl⟩
          unfold Row.lends; rw [h1, h2, h3]; simp
      · have h2 : (r.nm == sTRAP) = false := by simpa using h2
        refine ⟨?_, rfl⟩
        unfold Row.lends; rw [h1, h2]; simp
    · have h1 := or_t h1
      refine ⟨?_, rfl⟩
      unfold Row.lends; rw [h1]; simp
  · refine XS_join [(found_, .lst ((fallL r rs.length i).map .int)), (name_, .val (.str r.nm)), (cond_, .val r.cdD), (rows_, .val (rowsD rs)), (at_, .val (.int i))] ?_ ?_
    · refine X_if (TV_bool (TVs_and (TV_not (TV_val (EV_name rfl rfl ⟨_, rfl, ?_⟩)))))
      rw [lends_falls ho, Bool.not_not]
      split <;> rename_i h1
      · refine TVs_and (TV_cmp (EV_bin (EV_name rfl rfl (EV_int ⟨_, B_add, EV_len T.len rfl (EAL_of_EV (EV_name rfl rfl ⟨_, rfl, by simp; omega, ⟨_, C_lt_int, ?_⟩⟩))⟩))))
        simp only [List.length_map]
        split <;> rename_i h2
        · refine TVs_nil (XS_cons (X_expr (EV_append (ds₀ := []) rfl rfl (EV_bin (EV_name rfl rfl (EV_int ⟨_, B_add, _, rfl, by simp, XS_nil ⟨rfl, ?_, rfl, rfl, rfl, rfl, trivial⟩⟩))))))
          have h2 := of_decide_eq_true h2
          simp [fallL, h1, h2]
        · refine XS_nil ⟨rfl, ?_, rfl, rfl, rfl, rfl, trivial⟩
          have h2 : ¬ _ := fun q => h2 (decide_eq_true q)
          show some (Slot.lst []) = some (Slot.lst ((fallL r rs.length i).map .int))
          simp [fallL, h2]
      · refine XS_nil ⟨rfl, ?_, rfl, rfl, rfl, rfl, trivial⟩
        show some (Slot.lst []) = some (Slot.lst ((fallL r rs.length i).map .int))
        simp [fallL, h1]
    · refine XS_join [(found_, .lst ((succL r rs.length i).map .int))] ?_ ?_
      · have no : ¬ ((r.nm == sB) = true ∧ r.canJump = true ∧ inside (tgt r i) rs.length = true ∧ (fallL r rs.length i).any (· == tgt r i) = false) → succL r rs.length i = fallL r rs.length i := fun q => by unfold succL; rw [if_neg q]
        have hfl : (fallL r rs.length i).length ≤ 1 := by unfold fallL; split <;> simp
        refine X_if (TV_bool (TVs_and (TV_cmp (EV_name rfl rfl (EV_str ⟨_, C_eq_str, ?_⟩)))))
        split <;> rename_i h1
        · refine TVs_and (TV_cmp (EV_name rfl rfl (EV_str ⟨_, C_ne_cd, ?_⟩)))
          split <;> rename_i h2
          · refine TVs_and (TV_chain (EV_int (EV_bin (EV_bin (EV_name rfl rfl (EV_int ⟨_, B_add, EV_cell rfl rfl rfl rfl hr (by omega) (by decide) rfl ⟨_, B_add, ⟨_, C_le_int, ?_⟩⟩⟩))))))
            split <;> rename_i h3
            · have h3 := of_decide_eq_true h3
              refine EV_len T.len rfl (EAL_of_EV (EV_name rfl rfl ⟨_, rfl, by simp; omega, ⟨_, C_lt_int, ?_⟩⟩))
              simp only [List.length_map]
              split <;> rename_i h4
              · have h4 := of_decide_eq_true h4
                refine TVs_and (TV_cmpJ (CmpJ_notin (EV_bin (EV_bin (EV_name rfl rfl (EV_int ⟨_, B_add, EV_cell rfl rfl rfl rfl hr (by omega) (by decide) rfl ⟨_, B_add, ⟨_, rfl, EAL_own rfl rfl ⟨_, rfl, ?_⟩⟩⟩⟩))))))
                split <;> rename_i h5
                · have h5 : (fallL r rs.length i).any (· == tgt r i) = false := by simpa [tgt] using h5
                  refine TVs_nil (XS_cons (X_expr (EV_append rfl rfl (EV_bin (EV_bin (EV_name rfl rfl (EV_int ⟨_, B_add, EV_cell rfl rfl rfl rfl hr (by omega) (by decide) rfl ⟨_, B_add, _, rfl, by simp; omega, XS_nil ⟨rfl, ?_, trivial⟩⟩⟩)))))))
                  have : succL r rs.length i = fallL r rs.length i ++ [tgt r i] := by unfold succL; rw [if_pos ⟨h1, h2, inside_iff.mpr ⟨h3, h4⟩, h5⟩]
                  rw [this, List.map_append]; rfl
                · refine XS_nil ⟨rfl, ?_, trivial⟩
                  rw [no fun q => h5 (by rw [show (fallL r rs.length i).any (· == (i : Int) + 1 + r.o) = false from q.2.2.2]; rfl)]; rfl
              · refine XS_nil ⟨rfl, ?_, trivial⟩
                have h4 : ¬ _ := fun q => h4 (decide_eq_true q)
                rw [no fun q => h4 (inside_iff.mp q.2.2.1).2]; rfl
            · refine XS_nil ⟨rfl, ?_, trivial⟩
              have h3 : ¬ _ := fun q => h3 (decide_eq_true q)
              rw [no fun q => h3 (inside_iff.mp q.2.2.1).1]; rfl
          · refine XS_nil ⟨rfl, ?_, trivial⟩
            rw [no fun q => h2 q.2.1]; rfl
        · refine XS_nil ⟨rfl, ?_, trivial⟩
          rw [no fun q => h1 q.1]; rfl
      · have hsl := succL_len r rs.length i
        refine XS_cons (X_return (EV_of_EF (EF_sorted T.sorted rfl (EAL_own rfl rfl ⟨_, rfl, by omega, fun ns' hp hs => ⟨_, rfl, rfl, ?_⟩⟩))))
        show _ = _
        rw [srt_uniq hp hs]

set_option maxHeartbeats 8000000 in
theorem lcalled_spec (T : Top0 S) {f : Addr} (H : HasFn S (Str.ofString "_law_called") 19 f) {rs : List Row} {i : Nat} {r : Row} (hr : rs[i]? = some r) (hn : rs.length ≤ 15) :
    Fn prog w S f 1 [rowsD rs, .int i] (fun d => d = intsD (callL r rs.length i)) := by
  obtain ⟨nm, qual, doc, pm, an, cdv, ct, fa⟩ := H.fd
  refine Fn_intro fa T.lim (fdOk2 (x := rows_) (y := at_) (by decide +kernel) (by decide +kernel) (fun a b => rfl)) rfl fun A L rm => ?_
  have hi : i < rs.length := (List.getElem?_eq_some_iff.mp hr).1
  have no : ¬ ((r.nm == sBL) = true ∧ r.canJump = true ∧ inside (tgt r i) rs.length = true) → callL r rs.length i = [] := fun q => by unfold callL; rw [if_neg q]
  refine XS_cons (X_assign (EV_ifexp (TV_cmp (EV_cell rfl rfl rfl rfl hr (by omega) (by decide) rfl (EV_str ⟨_, C_eq_str, ?_⟩)))) rfl)
  split <;> rename_i h1
  · refine EV_bin (EV_bin (EV_name rfl rfl (EV_int ⟨_, B_add, EV_cell rfl rfl rfl rfl hr (by omega) (by decide) rfl ⟨_, B_add, ?_⟩⟩)))
    refine XS_cons (X_return (EV_ifexp (TV_bool (TVs_and (TV_cmp (EV_cell rfl rfl rfl rfl hr (by omega) (by decide) rfl (EV_str ⟨_, C_eq_str, ?_⟩)))))))
    rw [h1]
    simp only [if_true]
    refine TVs_and (TV_cmp (EV_cell rfl rfl rfl rfl hr (by omega) (by decide) rfl (EV_str ⟨_, C_ne_cd, ?_⟩)))
    split <;> rename_i h2
    · refine TVs_and (TV_chain (EV_int (EV_name rfl rfl ⟨_, C_le_int, ?_⟩)))
      split <;> rename_i h3
      · have h3 := of_decide_eq_true h3
        refine EV_len T.len rfl (EAL_of_EV (EV_name rfl rfl ⟨_, rfl, by simp; omega, ⟨_, C_lt_int, ?_⟩⟩))
        simp only [List.length_map]
        split <;> rename_i h4
        · have h4 := of_decide_eq_true h4
          refine TVs_nil (EV_of_EF (EF_list (EVs_cons (EV_name rfl rfl (EVs_nil ⟨by simp, _, rfl, rfl, ?_⟩)))))
          show _ = _
          unfold callL
          rw [if_pos ⟨h1, h2, inside_iff.mpr ⟨h3, h4⟩⟩]
          rfl
        · refine EV_of_EF (EF_list (EVs_nil ⟨by simp, _, rfl, rfl, ?_⟩))
          have h4 : ¬ _ := fun q => h4 (decide_eq_true q)
          show _ = _
          rw [no fun q => h4 (inside_iff.mp q.2.2).2]; rfl
      · refine EV_of_EF (EF_list (EVs_nil ⟨by simp, _, rfl, rfl, ?_⟩))
        have h3 : ¬ _ := fun q => h3 (decide_eq_true q)
        show _ = _
        rw [no fun q => h3 (inside_iff.mp q.2.2).1]; rfl
    · refine EV_of_EF (EF_list (EVs_nil ⟨by simp, _, rfl, rfl, ?_⟩))
      show _ = _
      rw [no fun q => h2 q.2.1]; rfl
  · refine EV_neg (EV_int ⟨_, rfl, ?_⟩)
    refine XS_cons (X_return (EV_ifexp (TV_bool (TVs_and (TV_cmp (EV_cell rfl rfl rfl rfl hr (by omega) (by decide) rfl (EV_str ⟨_, C_eq_str, ?_⟩)))))))
    rw [if_neg h1]
    refine EV_of_EF (EF_list (EVs_nil ⟨by simp, _, rfl, rfl, ?_⟩))
    show _ = _
    rw [no fun q => h1 q.1]; rfl
end
end

/-! # part Y -/
section

theorem lay_all {xs : List PyData} (h : ∀ x ∈ xs, x.canLay0 = true) : PyData.canLayAll0 xs = true := by
  induction xs with
  | nil => rfl
  | cons x r ih =>
    unfold PyData.canLayAll0
    rw [h x (by simp), ih fun y hy => h y (List.mem_cons_of_mem _ hy)]
    rfl
theorem dep_all {xs : List PyData} {k : Nat} (h : ∀ x ∈ xs, x.depth ≤ k) : PyData.depthAll xs ≤ k := by
  induction xs with
  | nil => exact Nat.zero_le _
  | cons x r ih =>
    unfold PyData.depthAll
    exact Nat.max_le.mpr ⟨h x (by simp), ih fun y hy => h y (List.mem_cons_of_mem _ hy)⟩
theorem shaped_list {xs : List PyData} (h : ∀ x ∈ xs, x.canLay0 = true ∧ x.depth ≤ 5) : SeqAt.shaped (.list xs) = true := by
  unfold SeqAt.shaped
  have h1 : (PyData.list xs).canLay0 = true := by
    unfold PyData.canLay0; exact lay_all fun x hx => (h x hx).1
  have h2 : (PyData.list xs).depth ≤ 6 := by
    unfold PyData.depth; exact Nat.succ_le_succ (dep_all fun x hx => (h x hx).2)
  rw [h1, decide_eq_true (by omega)]
  rfl
theorem shaped_intsD (ns : List Int) : SeqAt.shaped (intsD ns) = true := shaped_list fun x hx => by
  obtain ⟨i, _, rfl⟩ := List.mem_map.mp hx
  exact ⟨rfl, Nat.zero_le _⟩
theorem shaped_pairs (ps : List (Int × Int)) : SeqAt.shaped (.list (ps.map pairD)) = true := shaped_list fun x hx => by
  obtain ⟨i, _, rfl⟩ := List.mem_map.mp hx
  exact ⟨rfl, by show (PyData.tuple _).depth ≤ 5; simp [PyData.depth, PyData.depthAll]⟩
theorem shaped_lists (es : List (List Int)) : SeqAt.shaped (.list (es.map intsD)) = true := shaped_list fun x hx => by
  obtain ⟨i, _, rfl⟩ := List.mem_map.mp hx
  refine ⟨?_, ?_⟩
  · exact SeqAt.canLay_of_shaped (shaped_intsD i)
  · unfold PyData.depth
    exact Nat.succ_le_succ (Nat.le_trans (dep_all (k := 0) fun x hx => by obtain ⟨i, _, rfl⟩ := List.mem_map.mp hx; exact Nat.zero_le _) (by omega))
theorem eqv_self {d : PyData} (h : SeqAt.shaped d = true) : PyData.eqv d d = true := SeqAt.eqv_refl d (SeqAt.canLay_of_shaped h)

abbrev script_ : Str := Str.ofString "script"
abbrev cell_ : Str := Str.ofString "cell"
abbrev figure_ : Str := Str.ofString "figure"
abbrev lap_ : Str := Str.ofString "lap"
def Digs (ns : List Int) (k : Nat) : Prop := ns.length ≤ k ∧ ∀ x ∈ ns, 0 ≤ x ∧ x ≤ 1023
theorem Digs.add {ns : List Int} {k : Nat} (h : Digs ns k) (v : Int) : Digs (ns ++ [Int.fmod v 1024]) (k + 1) := by
  refine ⟨by simp; exact h.1, fun x hx => ?_⟩
  rcases List.mem_append.mp hx with q | q
  · exact h.2 x q
  · have := fmod_pos v (m := 1024) (by decide)
    rw [List.mem_singleton.mp q]; omega

section
variable {prog : Program} {w : World} {S : Shared} {c : Cx} {σ : St}
set_option maxHeartbeats 8000000 in
theorem lrow_spec (T : Top0 S) {f : Addr} (H : HasFn S (Str.ofString "_law_row") 15 f) {xs : List Int} (hx : xs.length ≤ 1000) :
    FnNew prog w S f 1 [.list (xs.map .int)] Fed := by
  obtain ⟨nm, qual, doc, pm, an, cdv, ct, fa⟩ := H.fd
  refine FnNew_intro fa T.lim (fdOk1 (x := script_) (by decide +kernel) (by decide +kernel) (fun a => rfl)) rfl fun A L rm => ?_
  refine XS_cons (X_own (EF_list (EVs_nil ⟨by simp, rfl, ?_⟩)) rfl)
  refine XS_cons (X_for_any rm.hh (fun ds k σ => ∃ cs : List Int, ds = cs.map PyData.int ∧ cs.length ≤ 40 ∧ ∃ ns, Sub [(row_, .lst (ns.map .int))] σ ∧ Digs ns (31 * k))
    (EV_of_EF (EF_slice (EV_name rfl rfl ⟨_, rfl, by simp; omega, EPart_none (EPart_some (EV_int ⟨_, rfl, ?_⟩))⟩))) ?_ ?_ (.inl (by intro _ _; rfl)))
  · refine ⟨_, rfl, rfl, _, rfl, sliceD xs none (some 40), by rw [sliceD_map], sliceD_len xs 40, [], ⟨rfl, trivial⟩, by simp [Digs]⟩
  · rintro ds k d σ hk ⟨cs, rfl, hcs, ns, hs, hd⟩
    rw [List.getElem?_map] at hk
    obtain ⟨v, hv, rfl⟩ := Option.map_eq_some_iff.mp hk
    have hkl := (List.getElem?_eq_some_iff.mp hv).1
    refine AS_name rfl ?_
    refine XS_weak [(cell_, .val (.int v)), (row_, .lst (ns.map .int))] ⟨rfl, hs.1, trivial⟩ ?_
    have hdl := hd.1
    refine XS_cons (X_assign (EV_int_of (EV_ifexp (TV_cmp (EV_name rfl rfl (EV_int ⟨_, C_ge_int, ?_⟩)))) fun g => ?_) rfl)
    · split
      · exact EV_name rfl rfl ⟨_, rfl, rfl⟩
      · exact EV_bin (EV_int (EV_name rfl rfl ⟨_, B_sub, ⟨_, rfl, rfl⟩⟩))
    · refine XS_cons (X_expr (EV_append rfl rfl (EV_bin (EV_name rfl rfl (EV_int ⟨_, B_mod (by decide), _, rfl, by simp; omega, ?_⟩)))))
      refine XS_cons (X_assign (EV_bin (EV_name rfl rfl (EV_int ⟨_, B_div (by decide) (PyProof.noPylong_small (by decide)), ?_⟩))) rfl)
      refine XS_weak [(figure_, .val (.int (Int.fdiv g 1024))), (row_, .lst ((ns ++ [Int.fmod g 1024]).map .int))] ⟨rfl, by rw [List.map_append]; rfl, trivial⟩ ?_
      refine XS_cons (X_for_count (n := 30) rm.hh T.range rfl (fun j σ => ∃ g ns, Sub [(figure_, .val (.int g)), (row_, .lst (ns.map .int))] σ ∧ Digs ns (31 * k + 1 + j)) rfl (by decide) (EV_int ⟨_, rfl, by decide, rfl, _, _, ⟨rfl, rfl, trivial⟩, hd.add g⟩) ?_ ?_)
      · rintro j σ hj ⟨g, ns, hs, hd⟩
        refine XS_weak [(lap_, .val (.int j)), (figure_, .val (.int g)), (row_, .lst (ns.map .int))] ⟨rfl, hs.1, hs.2.1, trivial⟩ ?_
        have hdl := hd.1
        refine XS_cons (X_if (TV_cmp (EV_name rfl rfl (EV_int ⟨_, C_gt_int, ?_⟩))))
        split
        · refine XS_cons (X_expr (EV_append rfl rfl (EV_bin (EV_name rfl rfl (EV_int ⟨_, B_mod (by decide), _, rfl, by simp; omega, ?_⟩)))))
          refine XS_cons (X_assign (EV_bin (EV_name rfl rfl (EV_int ⟨_, B_div (by decide) (PyProof.noPylong_small (by decide)), ?_⟩))) rfl)
          exact XS_nil (XS_nil ⟨_, ns ++ [Int.fmod g 1024], ⟨rfl, by rw [List.map_append]; rfl, trivial⟩, hd.add g⟩)
        · exact XS_nil (XS_nil ⟨g, ns, ⟨rfl, rfl, trivial⟩, by have := hd.1; omega, hd.2⟩)
      · rintro σ ⟨g, ns, hs, hd⟩
        show XS _ _ _ _
        exact XS_nil ⟨cs, rfl, hcs, ns, ⟨hs.2.1, trivial⟩, by have := hd.1; omega, hd.2⟩
  · rintro ds σ ⟨cs, rfl, hcs, ns, hs, hd⟩
    rw [List.length_map] at hd
    have hdl := hd.1
    show XS _ _ _ _
    refine XS_weak [(row_, .lst (ns.map .int))] ⟨hs.1, trivial⟩ ?_
    refine XS_cons (X_own (EF_slice (EV_freeze rfl rfl ⟨_, rfl, by simp; omega, EPart_none (EPart_some (EV_int ⟨_, rfl, rfl, ?_⟩))⟩)) rfl)
    rw [sliceD_map]
    have hF : Fed (sliceD ns none (some 160)) := ⟨sliceD_len ns 160, fun x hx => hd.2 x (sliceD_mem hx)⟩
    have hFl := hF.1
    refine XS_cons (X_expr (EV_reverse rfl rfl (by simp; omega) ?_))
    rw [← List.map_reverse]
    exact XS_cons (X_return_fresh rfl rfl ⟨by simp; omega, fun x hx => hF.2 x (by simpa using hx)⟩)
end
end

/-! # part Z -/
section

structure FnsL (S : Shared) extends Fns4 S where
  f10 : Addr
  f11 : Addr
  f13 : Addr
  f15 : Addr
  f16 : Addr
  f17 : Addr
  f18 : Addr
  f19 : Addr
  h10 : HasFn S (Str.ofString "blocks") 10 f10
  h11 : HasFn S (Str.ofString "block_edges") 11 f11
  h13 : HasFn S (Str.ofString "back_edges") 13 f13
  h15 : HasFn S (Str.ofString "_law_row") 15 f15
  h16 : HasFn S next_ 16 f16
  h17 : HasFn S (Str.ofString "_law_made") 17 f17
  h18 : HasFn S (Str.ofString "_law_onward") 18 f18
  h19 : HasFn S (Str.ofString "_law_called") 19 f19

abbrev QL : Out → St → Prop := fun o _ => match o with
  | .ret d => d = .bool true
  | .next => PyData.none = .bool true
  | _ => False
abbrev met_ : Str := Str.ofString "met"
abbrev begin_ : Str := Str.ofString "begin"
abbrev due_ : Str := Str.ofString "due"
def m0 (n : Nat) : List Int := if 0 < n then [0] else []
def Closed (rs : List Row) (ms : List Int) : Prop := ∀ x ∈ ms, ∀ r, rs[x.toNat]? = some r → ∀ y, (y ∈ succL r rs.length x.toNat ∨ y ∈ callL r rs.length x.toNat) → y ∈ ms
structure MetI (rs : List Row) (ms : List Int) : Prop where
  nd : ms.Nodup
  ok : ∀ x ∈ ms, Rch rs (m0 rs.length) x
  st : ∀ x ∈ m0 rs.length, x ∈ ms
theorem MetI.len {rs : List Row} {ms : List Int} (I : MetI rs ms) : ms.length ≤ rs.length := nodup_in I.nd fun x hx => (I.ok x hx).inside
theorem MetI.all {rs : List Row} {ms : List Int} (I : MetI rs ms) (h : Closed rs ms) (x : Int) : x ∈ ms ↔ Rch rs (m0 rs.length) x := by
  constructor
  · exact I.ok x
  · intro q
    induction q with
    | start a b c => exact I.st _ a
    | step a b c ih => exact h _ ih _ b _ c
theorem m0_in {n : Nat} {x : Int} (h : x ∈ m0 n) : 0 ≤ x ∧ x < n := by
  unfold m0 at h
  split at h
  · simp at h; omega
  · simp at h
theorem Rch.more {rs : List Row} {st st' : List Int} (h : ∀ x ∈ st, 0 ≤ x → x < rs.length → x ∈ st') {x : Int} (q : Rch rs st x) : Rch rs st' x := by
  induction q with
  | start a b c => exact .start (h _ a b c) b c
  | step a b c ih => exact .step ih b c
abbrev onL (rs : List Row) (x : Int) : List Int := match rs[x.toNat]? with
  | some r => srt (succL r rs.length x.toNat) ++ callL r rs.length x.toNat
  | none => []

section
variable {prog : Program} {w : World} {S : Shared} {nm qual : Str} {doc pm cdv ct : Value} {an : Option Addr} {A : Around} {L f : Addr}
abbrev cL (prog : Program) (w : World) (S : Shared) (A : Around) (nm qual : Str) (doc pm : Value) (an : Option Addr) (cdv ct : Value) (L f : Addr) : Cx := cxOf prog w S A (fdOf 20 nm qual doc pm an cdv ct) L f

set_option maxHeartbeats 8000000 in
theorem lawD (T : Top0 S) (N : FnsL S) {rs : List Row} (hn : rs.length ≤ 14) (hok : ∀ r ∈ rs, RowOk r) (rm : (cL prog w S A nm qual doc pm an cdv ct L f).Room 5) :
    XS (cL prog w S A nm qual doc pm an cdv ct L f) ((defAt 20).1.drop 15) [(rows_, .val (rowsD rs)), (many_, .val (.int rs.length))] QL := by
  have hu : (cL prog w S A nm qual doc pm an cdv ct L f).A.units + 64 < cLine := by have := rm.hu; unfold cLine; omega
  refine XS_join [(met_, .lst ((m0 rs.length).map .int)), (rows_, .val (rowsD rs)), (many_, .val (.int rs.length))] ?_ ?_
  · refine X_own (EF_ifexp (TV_cmp (EV_name rfl rfl (EV_int ⟨_, C_gt_int, ?_⟩)))) rfl
    split <;> rename_i h1
    · have h1 := of_decide_eq_true h1
      refine EF_list (EVs_cons (EV_int (EVs_nil ⟨by simp, rfl, rfl, ?_, rfl, rfl, trivial⟩)))
      unfold m0; rw [if_pos (by omega)]; rfl
    · have h1 : ¬ _ := fun q => h1 (decide_eq_true q)
      refine EF_list (EVs_nil ⟨by simp, rfl, rfl, ?_, rfl, rfl, trivial⟩)
      unfold m0; rw [if_neg (by omega)]; rfl
  have I0 : MetI rs (m0 rs.length) := ⟨by unfold m0; split <;> simp, fun x hx => .start hx (m0_in hx).1 (m0_in hx).2, fun x hx => hx⟩
  refine XS_cons (X_for_count (n := rs.length) rm.hh T.range rfl (fun k σ => ∃ ms, Sub [(met_, .lst (ms.map .int)), (rows_, .val (rowsD rs)), (many_, .val (.int rs.length))] σ ∧ MetI rs ms ∧ (Closed rs ms ∨ k + 1 ≤ ms.length)) rfl (by omega)
    (EV_name rfl rfl ⟨_, rfl, by omega, by simp, m0 rs.length, ⟨rfl, rfl, rfl, trivial⟩, I0, ?_⟩) ?_ ?_)
  · unfold m0
    split
    · exact .inr (by simp)
    · exact .inl fun x hx => by simp at hx
  · rintro k σ hk ⟨ms, hs, I, hp⟩
    have hml := I.len
    refine XS_weak [(lap_, .val (.int k)), (met_, .lst (ms.map .int)), (rows_, .val (rowsD rs)), (many_, .val (.int rs.length))] ⟨rfl, hs.1, hs.2.1, hs.2.2.1, trivial⟩ ?_
    refine XS_cons (X_for_at (ds := ms.map .int) rm.hh (fun j σ => ∃ t, Sub [(met_, .lst ((ms ++ t).map .int)), (rows_, .val (rowsD rs)), (many_, .val (.int rs.length))] σ ∧ MetI rs (ms ++ t) ∧ (∀ x ∈ ms.take j, ∀ y ∈ onL rs x, y ∈ ms ++ t) ∧ (Closed rs ms → t = []))
      (EV_of_EF (EF_listof T.list rfl (EAL_own rfl rfl ⟨by simp; omega, _, rfl, rfl, rfl, [], ⟨by rw [List.append_nil]; rfl, rfl, rfl, trivial⟩, by simpa using I, by simp, fun _ => rfl⟩))) ?_ ?_ (.inl (by intro _ _; rfl)))
    · rintro j d σ hj ⟨t, hs, I2, hc, ht⟩
      rw [List.getElem?_map] at hj
      obtain ⟨v, hv, rfl⟩ := Option.map_eq_some_iff.mp hj
      have hvm := List.mem_of_getElem? hv
      have hin := (I.ok v hvm).inside
      obtain ⟨i, hi⟩ : ∃ i : Nat, v = (i : Int) := ⟨v.toNat, by omega⟩
      subst hi
      have hil : i < rs.length := by omega
      have hr : rs[i]? = some rs[i] := List.getElem?_eq_getElem hil
      have hro : RowOk rs[i] := hok _ (List.getElem_mem hil)
      generalize rs[i] = r at hr hro
      have hon : onL rs (i : Int) = srt (succL r rs.length i) ++ callL r rs.length i := by unfold onL; rw [Int.toNat_natCast, hr]
      have hst : ∀ y, y ∈ srt (succL r rs.length i) ↔ y ∈ succL r rs.length i := fun y => (srt_perm _).mem_iff
      have hsl := succL_len r rs.length i
      have hcl := callL_len r rs.length i
      have hsl' : (srt (succL r rs.length i)).length ≤ 2 := by rw [(srt_perm _).length_eq]; exact hsl
      refine AS_name rfl ?_
      refine XS_weak [(at_, .val (.int i)), (met_, .lst ((ms ++ t).map .int)), (rows_, .val (rowsD rs)), (many_, .val (.int rs.length))] ⟨rfl, hs.1, hs.2.1, hs.2.2.1, trivial⟩ ?_
      refine XS_cons (X_for_at (ds := (srt (succL r rs.length i) ++ callL r rs.length i).map .int) rm.hh (fun q σ => ∃ t, Sub [(met_, .lst ((ms ++ t).map .int)), (rows_, .val (rowsD rs)), (many_, .val (.int rs.length))] σ ∧ MetI rs (ms ++ t) ∧ (∀ x ∈ ms.take j, ∀ y ∈ onL rs x, y ∈ ms ++ t) ∧ (Closed rs ms → t = []) ∧ (∀ y ∈ (srt (succL r rs.length i) ++ callL r rs.length i).take q, y ∈ ms ++ t))
        (EV_of_EF (EF_concat (EV_call2 N.h18 (onward_spec T N.h18 hr (by omega) hro) (rm.le (by decide)) rfl rfl rfl rfl rfl ⟨_, rfl, EV_call2 N.h19 (lcalled_spec T N.h19 hr (by omega)) (rm.le (by decide)) rfl rfl rfl rfl rfl ⟨_, rfl, by simp; omega, _, rfl, rfl, by rw [List.map_append], t, ⟨rfl, rfl, rfl, trivial⟩, I2, hc, ht, by simp⟩⟩))) ?_ ?_ (.inl (by intro _ _; rfl)))
      · rintro q d σ hq ⟨t, hs, I2, hc, ht, hy⟩
        rw [List.getElem?_map] at hq
        obtain ⟨y, hy1, rfl⟩ := Option.map_eq_some_iff.mp hq
        have hym := List.mem_of_getElem? hy1
        have hml2 := I2.len
        have hyR : Rch rs (m0 rs.length) y := .step (I.ok _ hvm) (by simpa using hr) (by
          rcases List.mem_append.mp hym with h | h
          · exact .inl (by simpa using (hst y).mp h)
          · exact .inr (by simpa using h))
        refine AS_name rfl ?_
        refine XS_weak [(goal_, .val (.int y)), (met_, .lst ((ms ++ t).map .int)), (rows_, .val (rowsD rs)), (many_, .val (.int rs.length))] ⟨rfl, hs.1, hs.2.1, hs.2.2.1, trivial⟩ ?_
        refine XS_cons (X_if (TV_cmpJ (CmpJ_notin (EV_name rfl rfl ⟨_, rfl, EAL_own rfl rfl ⟨_, rfl, ?_⟩⟩))))
        split <;> rename_i h1
        · have hno : y ∉ ms ++ t := fun h => by
            have : (ms ++ t).any (· == y) = true := List.any_eq_true.mpr ⟨y, h, by simp⟩
            rw [this] at h1; cases h1
          refine XS_cons (X_expr (EV_append rfl rfl (EV_name rfl rfl ⟨_, rfl, by simp at hml2 ⊢; omega, XS_nil (XS_nil ⟨t ++ [y], ⟨?_, rfl, rfl, trivial⟩, ⟨?_, fun x hx => ?_, fun x hx => ?_⟩, fun x hx z hz => ?_, fun hcl => ?_, fun z hz => ?_⟩)⟩)))
          · show some (Slot.lst _) = some (Slot.lst _)
            rw [← List.append_assoc, List.map_append (l₁ := ms ++ t)]; rfl
          · rw [← List.append_assoc, List.nodup_append]
            exact ⟨I2.nd, by simp, fun a ha b hb => by simp at hb; subst hb; exact fun q => hno (q ▸ ha)⟩
          · rw [← List.append_assoc] at hx
            rcases List.mem_append.mp hx with h | h
            · exact I2.ok x h
            · rw [List.mem_singleton.mp h]; exact hyR
          · rw [← List.append_assoc]; exact List.mem_append_left _ (I2.st x hx)
          · rw [← List.append_assoc]; exact List.mem_append_left _ (hc x hx z hz)
          · have e := ht hcl
            have : y ∈ ms := hcl _ hvm r (by simpa using hr) y (by
              rcases List.mem_append.mp hym with h | h
              · exact .inl (by simpa using (hst y).mp h)
              · exact .inr (by simpa using h))
            exact absurd (List.mem_append_left _ this) hno
          · rw [← List.append_assoc]
            rw [List.take_add_one, hy1] at hz
            rcases List.mem_append.mp hz with h | h
            · exact List.mem_append_left _ (hy z h)
            · exact List.mem_append_right _ (by simpa using h)
        · have hyes : y ∈ ms ++ t := by
            have h1 : (ms ++ t).any (· == y) = true := by
              cases q : (ms ++ t).any (· == y)
              · rw [q] at h1; exact absurd rfl h1
              · rfl
            obtain ⟨a, ha, e⟩ := List.any_eq_true.mp h1
            rw [← eq_of_beq e]; exact ha
          refine XS_nil (XS_nil ⟨t, ⟨rfl, rfl, rfl, trivial⟩, I2, hc, ht, fun z hz => ?_⟩)
          rw [List.take_add_one, hy1] at hz
          rcases List.mem_append.mp hz with h | h
          · exact hy z h
          · have : z = y := by simpa using h
            rw [this]; exact hyes
      · rintro σ ⟨t, hs, I2, hc, ht, hy⟩
        rw [List.length_map, List.take_length] at hy
        show XS _ _ _ _
        refine XS_nil ⟨t, hs, I2, fun x hx y hyo => ?_, ht⟩
        rw [List.take_add_one, hv] at hx
        rcases List.mem_append.mp hx with h | h
        · exact hc x h y hyo
        · have : x = (i : Int) := by simpa using h
          subst this
          rw [hon] at hyo
          exact hy y hyo
    · rintro σ ⟨t, hs, I2, hc, ht⟩
      rw [List.length_map, List.take_length] at hc
      show XS _ _ _ _
      refine XS_nil ⟨ms ++ t, hs, I2, ?_⟩
      by_cases hcl : Closed rs ms
      · rw [ht hcl, List.append_nil]; exact .inl hcl
      · have h1 : k + 1 ≤ ms.length := hp.resolve_left hcl
        cases t with
        | nil =>
          rw [List.append_nil] at hc ⊢
          refine .inl fun x hx r hr y hy => hc x hx y ?_
          unfold onL
          rw [hr]
          rcases hy with h | h
          · exact List.mem_append_left _ ((srt_perm _).mem_iff.mpr h)
          · exact List.mem_append_right _ h
        | cons a t => exact .inr (by simp; omega)
  · rintro σ ⟨ms, hs, I, hp⟩
    have hcl : Closed rs ms := hp.resolve_right fun h => by have := I.len; omega
    have hml := I.len
    have hR : ∀ x, x ∈ ms ↔ Rch rs (m0 rs.length) x := I.all hcl
    show XS _ _ _ _
    refine XS_weak [(met_, .lst (ms.map .int)), (rows_, .val (rowsD rs)), (many_, .val (.int rs.length))] ⟨hs.1, hs.2.1, hs.2.2.1, trivial⟩ ?_
    refine XS_join [(begin_, .val (intsD (m0 rs.length))), (met_, .lst (ms.map .int)), (rows_, .val (rowsD rs)), (many_, .val (.int rs.length))] ?_ ?_
    · refine X_assign (EV_ifexp (TV_cmp (EV_name rfl rfl (EV_int ⟨_, C_gt_int, ?_⟩)))) rfl
      split <;> rename_i h1
      · have h1 := of_decide_eq_true h1
        refine EV_of_EF (EF_list (EVs_cons (EV_int (EVs_nil ⟨by simp, _, rfl, rfl, rfl, ?_, rfl, rfl, rfl, trivial⟩))))
        unfold m0; rw [if_pos (by omega)]; rfl
      · have h1 : ¬ _ := fun q => h1 (decide_eq_true q)
        refine EV_of_EF (EF_list (EVs_nil ⟨by simp, _, rfl, rfl, rfl, ?_, rfl, rfl, rfl, trivial⟩))
        unfold m0; rw [if_neg (by omega)]; rfl
    · have hm0 : (m0 rs.length).length ≤ 1 := by unfold m0; split <;> simp
      refine XS_cons (X_if (TV_cmp (EV_call2E (n := 3) N.h12 (rm.le (by decide)) rfl rfl rfl (EV_of_EF (EF_concat (EV_name rfl rfl ⟨_, rfl, ?_⟩))))))
      refine EV_of_EF (EF_list (EVs_cons (EV_name rfl rfl (EVs_cons (EV_neg (EV_int ⟨_, rfl, EVs_nil ⟨by simp, _, rfl, rfl, _, rfl, by simp; omega, _, rfl, rfl, ?_⟩⟩))))))
      have e : ((m0 rs.length).map PyData.int ++ [.int rs.length, .int (-1)]) = (m0 rs.length ++ [(rs.length : Int), -1]).map .int := by rw [List.map_append]; rfl
      rw [e]
      refine ⟨_, reach_spec T N.toFns2 N.h12 (by omega) (by simp; omega), ?_⟩
      rintro d ⟨ns, rfl, hns⟩
      refine EV_of_EF (EF_sorted T.sorted rfl (EAL_own rfl rfl ⟨ms, rfl, by omega, fun ns' hp' hq' => ⟨_, rfl, rfl, _, C_ne_data (shaped_intsD ns) (shaped_intsD ns') hu, ?_⟩⟩))
      have hS' : SL (Rch rs (m0 rs.length)) ns' := SL.of_perm hp' hq' I.nd hR
      have ee : ns = ns' := hns.uniq hS' fun x => ⟨fun h => h.more fun z hz a b => by
        rcases List.mem_append.mp hz with h | h
        · exact h
        · simp at h; omega, fun h => h.more fun z hz _ _ => List.mem_append_left _ hz⟩
      subst ee
      rw [eqv_self (shaped_intsD ns)]
      refine XS_nil ?_
      refine XS_cons (X_own (EF_list (EVs_nil ⟨by simp, rfl, ?_⟩)) rfl)
      refine XS_cons (X_for_any rm.hh (fun ds k σ => ds = ns.map PyData.int ∧ Sub [(due_, .lst (((ns.take k).filterMap (backOf rs)).map pairD)), (begin_, .val (intsD (m0 rs.length))), (rows_, .val (rowsD rs))] σ)
        (EV_of_EF (EF_sorted T.sorted rfl (EAL_own rfl rfl ⟨ms, rfl, by omega, fun ns2 hp2 hq2 => ⟨_, rfl, rfl, _, rfl, ?_, rfl, rfl, rfl, trivial⟩⟩))) ?_ ?_ (.inl (by intro _ _; rfl)))
      · rw [(SL.of_perm hp2 hq2 I.nd hR).uniq hS' fun _ => Iff.rfl]
      · rintro ds k d σ hk ⟨rfl, hs⟩
        rw [List.getElem?_map] at hk
        obtain ⟨v, hv, rfl⟩ := Option.map_eq_some_iff.mp hk
        have hin := ((hS'.2 v).mp (List.mem_of_getElem? hv)).inside
        have hlen : ns.length ≤ rs.length := nodup_in (hS'.1.imp fun h => Int.ne_of_lt h) fun x hx => ((hS'.2 x).mp hx).inside
        obtain ⟨i, hi⟩ : ∃ i : Nat, v = (i : Int) := ⟨v.toNat, by omega⟩
        subst hi
        have hil : i < rs.length := by omega
        have hr : rs[i]? = some rs[i] := List.getElem?_eq_getElem hil
        generalize rs[i] = r at hr
        refine AS_name rfl ?_
        refine XS_weak [(at_, .val (.int i)), (due_, .lst (((ns.take k).filterMap (backOf rs)).map pairD)), (begin_, .val (intsD (m0 rs.length))), (rows_, .val (rowsD rs))] ⟨rfl, hs.1, hs.2.1, hs.2.2.1, trivial⟩ ?_
        have hfl : ((ns.take k).filterMap (backOf rs)).length ≤ 15 := by
          have h1 := List.length_filterMap_le (backOf rs) (ns.take k)
          have h3 : (ns.take k).length ≤ ns.length := by rw [List.length_take]; omega
          omega
        have no : ¬ ((r.nm == sB) = true ∧ r.canJump = true ∧ r.o < 0) → (ns.take (k + 1)).filterMap (backOf rs) = (ns.take k).filterMap (backOf rs) := fun q => by
          rw [List.take_add_one, hv, List.filterMap_append]
          have : backOf rs (i : Int) = none := by unfold backOf; rw [Int.toNat_natCast, hr]; simp only; rw [if_neg q]
          simp [this]
        refine XS_cons (X_if (TV_bool (TVs_and (TV_cmp (EV_cell rfl rfl rfl rfl hr (by omega) (by decide) rfl (EV_str ⟨_, C_eq_str, ?_⟩))))))
        split <;> rename_i h1
        · refine TVs_and (TV_cmp (EV_cell rfl rfl rfl rfl hr (by omega) (by decide) rfl (EV_str ⟨_, C_ne_cd, ?_⟩)))
          split <;> rename_i h2
          · refine TVs_and (TV_cmp (EV_cell rfl rfl rfl rfl hr (by omega) (by decide) rfl (EV_int ⟨_, C_lt_int, ?_⟩)))
            split <;> rename_i h3
            · refine TVs_nil ?_
              have h3 := of_decide_eq_true h3
              have hb : backOf rs (i : Int) = some ((i : Int), (i : Int) + 1 + r.o) := by unfold backOf; rw [Int.toNat_natCast, hr]; simp only; rw [if_pos ⟨h1, h2, h3⟩]
              refine XS_cons (X_expr (EV_append rfl rfl (EV_tuple (EVs_cons (EV_name rfl rfl (EVs_cons (EV_bin (EV_bin (EV_name rfl rfl (EV_int ⟨_, B_add, EV_cell rfl rfl rfl rfl hr (by omega) (by decide) rfl ⟨_, B_add, EVs_nil ⟨by simp, _, rfl, by simp; omega, XS_nil (XS_nil ⟨rfl, ?_, rfl, rfl, trivial⟩)⟩⟩⟩))))))))))
              rw [List.take_add_one, hv, List.filterMap_append, List.map_append]
              simp [hb]
            · refine XS_nil (XS_nil ⟨rfl, ?_, rfl, rfl, trivial⟩)
              have h3 : ¬ _ := fun q => h3 (decide_eq_true q)
              rw [no fun q => h3 q.2.2]; rfl
          · refine XS_nil (XS_nil ⟨rfl, ?_, rfl, rfl, trivial⟩)
            rw [no fun q => h2 q.2.1]; rfl
        · refine XS_nil (XS_nil ⟨rfl, ?_, rfl, rfl, trivial⟩)
          rw [no fun q => h1 q.1]; rfl
      · rintro ds σ ⟨rfl, hs⟩
        rw [List.length_map, List.take_length] at hs
        show XS _ _ _ _
        refine XS_weak [(due_, .lst ((ns.filterMap (backOf rs)).map pairD)), (begin_, .val (intsD (m0 rs.length))), (rows_, .val (rowsD rs))] ⟨hs.1, hs.2.1, hs.2.2.1, trivial⟩ ?_
        refine XS_cons (X_return (EV_cmp (EV_call2P N.h13 (back_spec T N.toFns4 N.h13 (by omega) (by omega)) (rm.le (by decide)) rfl rfl rfl rfl rfl ?_)))
        rintro d ⟨ns3, rfl, h3⟩
        have : ns3 = ns := h3.uniq hS' fun _ => Iff.rfl
        subst this
        refine EV_freeze rfl rfl ⟨_, C_eq_data (shaped_pairs _) (shaped_pairs _) hu, ?_⟩
        rw [eqv_self (shaped_pairs _)]
end
end

/-! # part M -/
section

section
variable {c : Cx} {σ : St}
theorem Cx.Room.inn {n : Nat} {scope : Scope} {cl : List (Str × Addr)} {C : Addr} (h : c.Room n) : (c.inn scope cl C).Room n := ⟨h.hh, h.hd, h.hu⟩
/-- [x for x in range(n) if t] -/
theorem EF_filter {rn : Str} {rp cp : Pos} {e t : Expr} {x : Str} {xp ep : Pos} {scope : Scope} {cl : List (Str × Addr)} {pos : Pos} {n : Nat} {σi : St} {P : Nat → Prop} {Q : Slot → St → Prop} (ok : BlockOk scope cl c.env x) (hh : c.A.handled = none) (hb : BuiltAt c.S rn (.type "range")) (hx : IsGlob c.env rn = true) (hn : n < 1000)
    (he : EV c e σ (fun d σ₁ => d = .int n ∧ σ₁ = σ)) (hS : Seen cl σi σ) (hM : ∀ j : Nat, Merge cl ((x, .val (.int j)) :: σi) σ σ)
    (hv : ∀ C, IsVar (compEnvC scope cl C c.env) x = true)
    (test : ∀ C (j : Nat), j < n → TV (c.inn scope cl C) t ((x, .val (.int j)) :: σi) (fun b σ' => (b = true ↔ P j) ∧ σ' = (x, .val (.int j)) :: σi))
    (done : ∀ ns, SL (fun y => ∃ j : Nat, y = (j : Int) ∧ j < n ∧ P j) ns → Q (.lst (ns.map .int)) σ)
    (hs : ∀ y, foldedSetIterable (.Call (.Name rn rp) [e] [] cp) c.env y = pure y := by intro _; rfl) (hse : starEach [e] c.env = [(false, eval e c.env)] := by rfl) : EF c (.ListComp (.Name x ep) [⟨.Name x xp, .Call (.Name rn rp) [e] [] cp, [t], 0⟩] scope pos) σ Q := by
  refine EF_listcomp ok (fun rest acc σ' => σ' = σ ∧ ∃ k ns, k ≤ n ∧ rest = ((List.range n).map fun (i : Nat) => PyData.int i).drop k ∧ acc = ns.map PyData.int ∧ SL (fun y => ∃ j : Nat, y = (j : Int) ∧ j < k ∧ P j) ns)
    (ESrc_range hh hb hx (EV.mono he fun d σ' ⟨e1, e2⟩ => ⟨n, e1, by omega, by simp; omega, e2, 0, [], Nat.zero_le _, rfl, rfl, .nil, fun y => by simp⟩) hse) ?_ ?_ hs
  · rintro C d rest acc σ' ⟨rfl, k, ns, hk, e, rfl, hns⟩
    have hlt : k < ((List.range n).map fun (i : Nat) => PyData.int i).length := by
      rcases Nat.lt_or_ge k ((List.range n).map fun (i : Nat) => PyData.int i).length with q | q
      · exact q
      · rw [List.drop_eq_nil_of_le q] at e; cases e
    rw [List.drop_eq_getElem_cons hlt] at e
    have hlt' : k < n := by simpa using hlt
    rw [List.getElem_map, List.getElem_range] at e
    cases e
    refine ⟨σi, hS, TIfs_one (TV.mono (test C k hlt') ?_)⟩
    rintro b σ' ⟨hb, rfl⟩
    cases b with
    | true =>
      have hP : P k := hb.mp rfl
      refine EV_name (by simp [List.lookup_cons]; rfl) (hv C) ⟨_, hM k, rfl, k + 1, ns ++ [(k : Int)], hlt', rfl, by rw [List.map_append]; rfl, ?_, fun y => ?_⟩
      · rw [List.pairwise_append]
        refine ⟨hns.1, List.pairwise_singleton _ _, fun a ha b hb => ?_⟩
        obtain ⟨j, rfl, hj, _⟩ := (hns.2 a).mp ha
        rw [List.mem_singleton.mp hb]; omega
      · rw [List.mem_append, hns.2, List.mem_singleton]
        constructor
        · rintro (⟨j, h1, h2, h3⟩ | h)
          · exact ⟨j, h1, by omega, h3⟩
          · exact ⟨k, h, by omega, hP⟩
        · rintro ⟨j, h1, h2, h3⟩
          rcases Nat.lt_or_ge j k with q | q
          · exact .inl ⟨j, h1, q, h3⟩
          · have : j = k := by omega
            subst this; exact .inr h1
    | false =>
      have hP : ¬ P k := fun q => by have := hb.mpr q; cases this
      refine ⟨_, hM k, rfl, k + 1, ns, hlt', rfl, rfl, hns.1, fun y => ?_⟩
      rw [hns.2]
      constructor
      · rintro ⟨j, h1, h2, h3⟩
        exact ⟨j, h1, by omega, h3⟩
      · rintro ⟨j, h1, h2, h3⟩
        rcases Nat.lt_or_ge j k with q | q
        · exact ⟨j, h1, q, h3⟩
        · have : j = k := by omega
          subst this; exact absurd h3 hP
  · rintro acc σ' ⟨rfl, k, ns, hk, e, rfl, hns⟩
    have : k = n := by
      rcases Nat.lt_or_ge k n with q | q
      · rw [List.drop_eq_getElem_cons (by simpa using q)] at e; cases e
      · omega
    subst this
    exact done ns hns
end

theorem EdgesOk.uniq {rs : List Row} {ps : List (Int × Int)} {es es' : List (List Int)} (h : EdgesOk rs ps ps.length es) (h' : EdgesOk rs ps ps.length es') : es = es' := by
  refine List.ext_getElem? fun j => ?_
  rcases Nat.lt_or_ge j ps.length with q | q
  · have a1 : es[j]? = some (es[j]'(by rw [h.1]; exact q)) := List.getElem?_eq_getElem (by rw [h.1]; exact q)
    have a2 : es'[j]? = some (es'[j]'(by rw [h'.1]; exact q)) := List.getElem?_eq_getElem (by rw [h'.1]; exact q)
    have a3 : ps[j]? = some ps[j] := List.getElem?_eq_getElem q
    obtain ⟨r, b1, b2⟩ := h.2 j _ _ a3 a1
    obtain ⟨r', c1, c2⟩ := h'.2 j _ _ a3 a2
    rw [b1] at c1; cases c1
    rw [a1, a2, b2.uniq c2 fun _ => Iff.rfl]
  · rw [List.getElem?_eq_none (by rw [h.1]; exact q), List.getElem?_eq_none (by rw [h'.1]; exact q)]

abbrev parts_x_ : Str := Str.ofString "parts_x"
abbrev spot_ : Str := Str.ofString "spot"
section
variable {prog : Program} {w : World} {S : Shared} {nm qual : Str} {doc pm cdv ct : Value} {an : Option Addr} {A : Around} {L f : Addr}

set_option maxHeartbeats 8000000 in
theorem lawC (T : Top0 S) (N : FnsL S) {rs : List Row} (hn : rs.length ≤ 14) (hok : ∀ r ∈ rs, RowOk r) (rm : (cL prog w S A nm qual doc pm an cdv ct L f).Room 5) {ps : List (Int × Int)} (hp : ps.length ≤ 14) (P : PartsOk rs ps) :
    XS (cL prog w S A nm qual doc pm an cdv ct L f) ((defAt 20).1.drop 12) [(parts_x_, .val (.list (ps.map pairD))), (rows_, .val (rowsD rs)), (many_, .val (.int rs.length))] QL := by
  have hu : (cL prog w S A nm qual doc pm an cdv ct L f).A.units + 64 < cLine := by have := rm.hu; unfold cLine; omega
  refine XS_cons (X_own (EF_list (EVs_nil ⟨by simp, rfl, ?_⟩)) rfl)
  refine XS_cons (X_for_at (ds := ps.map pairD) rm.hh (fun k σ => ∃ es, Sub [(edges_, .lst (es.map intsD)), (parts_x_, .val (.list (ps.map pairD))), (rows_, .val (rowsD rs)), (many_, .val (.int rs.length))] σ ∧ EdgesOk rs ps k es) (EV_name rfl rfl ⟨rfl, [], ⟨rfl, rfl, rfl, rfl, trivial⟩, rfl, fun j q ns _ h => by simp at h⟩) ?_ ?_ (.inr ⟨_, _, _, rfl⟩))
  · rintro k d σ hk ⟨es, hs, he⟩
    rw [List.getElem?_map] at hk
    obtain ⟨q, hq, rfl⟩ := Option.map_eq_some_iff.mp hk
    have hkl := (List.getElem?_eq_some_iff.mp hq).1
    have hmem := List.mem_of_getElem? hq
    obtain ⟨q0, q1, q2⟩ := P.ok q hmem
    have hi : (q.2 - 1).toNat < rs.length := by omega
    have hr : rs[(q.2 - 1).toNat]? = some rs[(q.2 - 1).toNat] := List.getElem?_eq_getElem hi
    have hro : RowOk rs[(q.2 - 1).toNat] := hok _ (List.getElem_mem hi)
    generalize rs[(q.2 - 1).toNat] = r at hr hro
    have hqi : q.2 - 1 = (((q.2 - 1).toNat : Nat) : Int) := by omega
    obtain ⟨i, hidef⟩ : ∃ i, i = (q.2 - 1).toNat := ⟨_, rfl⟩
    rw [← hidef] at hr hqi hi
    have hel := he.1
    refine AS_pair rm.hh rfl rfl ?_
    refine XS_weak [(end_, .val (.int q.2)), (edges_, .lst (es.map intsD)), (parts_x_, .val (.list (ps.map pairD))), (rows_, .val (rowsD rs)), (many_, .val (.int rs.length))] ⟨rfl, hs.1, hs.2.1, hs.2.2.1, hs.2.2.2.1, trivial⟩ ?_
    refine XS_cons (X_expr (EV_append rfl rfl (EV_of_EF (EF_filter (n := ps.length) (P := fun j => ∃ q', ps[j]? = some q' ∧ q'.1 ∈ succL r rs.length i) (σi := [(end_, .val (.int q.2)), (parts_x_, .val (.list (ps.map pairD))), (rows_, .val (rowsD rs))]) (blockOk [rows_, parts_x_, end_] rfl rfl) rm.hh T.range rfl (by omega)
      (EV_len T.len rfl (EAL_of_EV (EV_name rfl rfl ⟨_, rfl, by simp; omega, by simp, rfl⟩))) ?_ ?_ (fun C => rfl) ?_ ?_))))
    · intro y hy
      simp only [List.mem_cons, List.not_mem_nil, or_false] at hy
      rcases hy with rfl | rfl | rfl <;> exact ⟨rfl, rfl⟩
    · intro j y hy
      simp only [List.mem_cons, List.not_mem_nil, or_false] at hy
      rcases hy with rfl | rfl | rfl | rfl | rfl
      · exact .inl ⟨rfl, rfl⟩
      · exact .inr ⟨rfl, rfl⟩
      · exact .inl ⟨rfl, rfl⟩
      · exact .inl ⟨rfl, rfl⟩
      · exact .inr ⟨rfl, rfl⟩
    · intro C j hj
      have hr2 : ps[j]? = some ps[j] := List.getElem?_eq_getElem hj
      generalize ps[j] = q' at hr2
      refine TV_cmp (EV_item_tup (EV_item_list (EV_name rfl rfl (EV_name rfl rfl ⟨_, _, pairD q', rfl, rfl, by omega, by omega, by simp [hr2], EV_int ⟨_, _, .int q'.1, rfl, rfl, by decide, by decide, rfl, ?_⟩⟩))))
      refine EV_call2E (n := 1) N.h18 (rm.le (by decide)).inn rfl rfl rfl (EV_bin (EV_name rfl rfl (EV_int ⟨_, B_sub, ?_⟩)))
      rw [hqi]
      refine ⟨_, onward_spec T N.h18 hr (by omega) hro, ?_⟩
      rintro d rfl
      refine ⟨_, C_in_ints, ?_, rfl⟩
      rw [List.any_eq_true]
      constructor
      · rintro ⟨a, ha, e⟩
        exact ⟨q', hr2, by rw [← eq_of_beq e]; exact (srt_perm _).mem_iff.mp ha⟩
      · rintro ⟨q2, e, h⟩
        rw [hr2] at e; cases e
        exact ⟨q'.1, (srt_perm _).mem_iff.mpr h, by simp⟩
    · intro ns hns
      refine ⟨_, rfl, rfl, _, rfl, by simp; omega, XS_nil ⟨es ++ [ns], ⟨?_, rfl, rfl, rfl, trivial⟩, by simp [hel], fun j q2 ns' h1 h2 => ?_⟩⟩
      · rw [List.map_append]; rfl
      · rcases Nat.lt_or_ge j k with h | h
        · rw [List.getElem?_append_left (by omega)] at h2
          exact he.2 j q2 ns' h1 h2
        · have h3 := (List.getElem?_eq_some_iff.mp h2).1
          have h3' : j < k + 1 := by simpa [hel] using h3
          have : j = k := by omega
          subst this
          rw [hq] at h1; cases h1
          rw [List.getElem?_append_right (by omega)] at h2
          have : j - es.length = 0 := by omega
          rw [this] at h2
          cases h2
          refine ⟨r, by rw [← hidef]; exact hr, hns.1, fun y => ?_⟩
          rw [hns.2, ← hidef]
          unfold EdgP
          constructor
          · rintro ⟨j, e1, _, q', e2, e3⟩
            exact ⟨j, q', e1, e2, e3⟩
          · rintro ⟨j, q', e1, e2, e3⟩
            exact ⟨j, e1, (List.getElem?_eq_some_iff.mp e2).1, q', e2, e3⟩
  · rintro σ ⟨es, hs, he⟩
    rw [List.length_map] at he
    show XS _ _ _ _
    refine XS_weak [(edges_, .lst (es.map intsD)), (parts_x_, .val (.list (ps.map pairD))), (rows_, .val (rowsD rs)), (many_, .val (.int rs.length))] ⟨hs.1, hs.2.1, hs.2.2.1, hs.2.2.2.1, trivial⟩ ?_
    refine XS_cons (X_if (TV_cmp (EV_call2P N.h11 (edges_spec T N.toFns2 N.h11 (by omega) (by omega) P) (rm.le (by decide)) rfl rfl rfl rfl rfl ?_)))
    rintro d ⟨es', rfl, he'⟩
    refine EV_freeze rfl rfl ⟨_, C_ne_data (shaped_lists es') (shaped_lists es) hu, ?_⟩
    have := he.uniq he'
    subst this
    rw [eqv_self (shaped_lists es)]
    refine XS_nil ?_
    exact XS_weak [(rows_, .val (rowsD rs)), (many_, .val (.int rs.length))] ⟨rfl, rfl, trivial⟩ (lawD T N hn hok rm)
end
end

/-! # part N -/
section

theorem partsL_get {ss : List Int} {n : Nat} {q : Int × Int} (h : q ∈ partsL ss n) : ∃ k, ss[k]? = some q.1 ∧ ((k + 1 = ss.length ∧ q.2 = n) ∨ ss[k + 1]? = some q.2) := by
  obtain ⟨k, hk⟩ := List.mem_iff_getElem?.mp h
  have hl := (List.getElem?_eq_some_iff.mp hk).1
  rw [partsL_len] at hl
  have ha : ss[k]? = some ss[k] := List.getElem?_eq_getElem hl
  rcases Nat.lt_or_ge (k + 1) ss.length with g | g
  · have hb : ss[k + 1]? = some ss[k + 1] := List.getElem?_eq_getElem g
    have := partsL_mid (n := n) ha hb
    rw [hk] at this
    cases this
    exact ⟨k, ha, .inr hb⟩
  · have := partsL_last (n := n) ha (by omega)
    rw [hk] at this
    cases this
    exact ⟨k, ha, .inl ⟨by omega, rfl⟩⟩
theorem partsL_fst (ss : List Int) (n : Nat) : (partsL ss n).map (·.1) = ss := by
  unfold partsL
  refine List.map_fst_zip ?_
  simp; omega
theorem succL_mem {r : Row} {n i : Nat} {t : Int} (h : t ∈ succL r n i) : (t = (i : Int) + 1 ∧ (i : Int) + 1 < n) ∨ jumpT r n i t := by
  have hf : t ∈ fallL r n i → (t = (i : Int) + 1 ∧ (i : Int) + 1 < n) := fun h => by
    unfold fallL at h
    split at h
    · rename_i q; exact ⟨by simpa using h, q.2⟩
    · simp at h
  unfold succL at h
  split at h
  · rename_i q
    rcases List.mem_append.mp h with h | h
    · exact .inl (hf h)
    · refine .inr ⟨?_, q.2.1, q.2.2.1, List.mem_singleton.mp h⟩
      unfold Row.branch; rw [q.1]; rfl
  · exact .inl (hf h)
theorem partsOk {rs : List Row} {ex ss : List Int} (hE : ∀ x ∈ ex, 0 ≤ x ∧ x < rs.length) (h : SL (LeadP rs ex) ss) : PartsOk rs (partsL ss rs.length) := by
  have hin : ∀ x ∈ ss, 0 ≤ x ∧ x < rs.length := fun x hx => ((h.2 x).mp hx).inside hE
  refine ⟨by rw [partsL_fst]; exact h.1, fun q hq => ?_, fun q hq r hr t ht => ?_⟩
  · obtain ⟨k, h1, h2⟩ := partsL_get hq
    have a1 := hin q.1 (List.mem_of_getElem? h1)
    rcases h2 with ⟨_, e⟩ | h2
    · rw [e]; omega
    · have a2 := hin q.2 (List.mem_of_getElem? h2)
      obtain ⟨l1, e1⟩ := List.getElem?_eq_some_iff.mp h1
      obtain ⟨l2, e2⟩ := List.getElem?_eq_some_iff.mp h2
      have := List.pairwise_iff_getElem.mp h.1 k (k + 1) l1 l2 (Nat.lt_succ_self _)
      omega
  · rw [partsL_fst]
    obtain ⟨k, h1, h2⟩ := partsL_get hq
    rcases succL_mem ht with ⟨e, e'⟩ | j
    · rcases h2 with ⟨_, e2⟩ | h2
      · rw [e2] at e'; omega
      · have a2 := hin q.2 (List.mem_of_getElem? h2)
        have : t = q.2 := by
          have a1 := hin q.1 (List.mem_of_getElem? h1)
          obtain ⟨l1, e1⟩ := List.getElem?_eq_some_iff.mp h1
          obtain ⟨l2, e2⟩ := List.getElem?_eq_some_iff.mp h2
          have := List.pairwise_iff_getElem.mp h.1 k (k + 1) l1 l2 (Nat.lt_succ_self _)
          omega
        rw [this]; exact List.mem_of_getElem? h2
    · refine (h.2 t).mpr (.inr (.inl ⟨.inr ⟨_, r, (List.getElem?_eq_some_iff.mp hr).1, hr, j⟩, ?_⟩))
      rw [j.2.2.2]; exact (inside_iff.mp j.2.2.1).2
theorem zip_pairs (ss : List Int) (n : Nat) : ((ss.map PyData.int).zip ((ss.drop 1).map PyData.int ++ [PyData.int n])).map (fun q => PyData.tuple [q.1, q.2]) = (partsL ss n).map pairD := by
  have e : (ss.drop 1).map PyData.int ++ [PyData.int n] = (ss.drop 1 ++ [(n : Int)]).map PyData.int := by rw [List.map_append]; rfl
  rw [e, List.zip_map, List.map_map]
  rfl

abbrev before_ : Str := Str.ofString "before"
abbrev goals_ : Str := Str.ofString "goals"
section
variable {prog : Program} {w : World} {S : Shared} {nm qual : Str} {doc pm cdv ct : Value} {an : Option Addr} {A : Around} {L f : Addr}

set_option maxHeartbeats 8000000 in
theorem lawB (T : Top0 S) (N : FnsL S) {rs : List Row} (hn : rs.length ≤ 14) (hok : ∀ r ∈ rs, RowOk r) (rm : (cL prog w S A nm qual doc pm an cdv ct L f).Room 5) {ex gs : List Int} (hE : ∀ x ∈ ex, 0 ≤ x ∧ x < rs.length) (hel : ex.length ≤ 3) (hG : SL (TgtK rs ex rs.length) gs) :
    XS (cL prog w S A nm qual doc pm an cdv ct L f) ((defAt 20).1.drop 8) [(goals_, .val (intsD gs)), (extra_, .val (intsD ex)), (rows_, .val (rowsD rs)), (many_, .val (.int rs.length))] QL := by
  have hu : (cL prog w S A nm qual doc pm an cdv ct L f).A.units + 64 < cLine := by have := rm.hu; unfold cLine; omega
  refine XS_cons (X_own (EF_list (EVs_nil ⟨by simp, rfl, ?_⟩)) rfl)
  refine XS_cons (X_for_count (n := rs.length) rm.hh T.range rfl (fun k σ => ∃ ss, Sub [(starts_, .lst (ss.map .int)), (goals_, .val (intsD gs)), (extra_, .val (intsD ex)), (rows_, .val (rowsD rs)), (many_, .val (.int rs.length))] σ ∧ SL (fun x => LeadP rs ex x ∧ x < k) ss) rfl (by omega)
    (EV_name rfl rfl ⟨_, rfl, by omega, by simp, [], ⟨rfl, rfl, rfl, rfl, rfl, trivial⟩, .nil, fun x => ⟨fun h => by simp at h, fun ⟨h, h'⟩ => by have := h.inside hE; omega⟩⟩) ?_ ?_)
  · rintro k σ hk ⟨ss, hs, hss⟩
    have hsl : ss.length ≤ rs.length := nodup_in (hss.1.imp fun h => Int.ne_of_lt h) fun x hx => ((hss.2 x).mp hx).1.inside hE
    have hyes : LeadP rs ex k → SL (fun x => LeadP rs ex x ∧ x < ((k + 1 : Nat) : Int)) (ss ++ [(k : Int)]) := fun h => by
      refine ⟨?_, fun x => ?_⟩
      · rw [List.pairwise_append]
        exact ⟨hss.1, List.pairwise_singleton _ _, fun a ha b hb => by rw [List.mem_singleton.mp hb]; exact ((hss.2 a).mp ha).2⟩
      · rw [List.mem_append, hss.2, List.mem_singleton]
        constructor
        · rintro (q | q)
          · exact ⟨q.1, by omega⟩
          · rw [q]; exact ⟨h, by omega⟩
        · rintro ⟨q, q'⟩
          by_cases e : x = (k : Int)
          · exact .inr e
          · exact .inl ⟨q, by omega⟩
    have hno : ¬ LeadP rs ex k → SL (fun x => LeadP rs ex x ∧ x < ((k + 1 : Nat) : Int)) ss := fun h => by
      refine ⟨hss.1, fun x => ?_⟩
      rw [hss.2]
      constructor
      · rintro ⟨q, q'⟩; exact ⟨q, by omega⟩
      · rintro ⟨q, q'⟩
        refine ⟨q, ?_⟩
        have : x ≠ (k : Int) := fun e => h (e ▸ q)
        omega
    refine XS_weak [(at_, .val (.int k)), (starts_, .lst (ss.map .int)), (goals_, .val (intsD gs)), (extra_, .val (intsD ex)), (rows_, .val (rowsD rs)), (many_, .val (.int rs.length))] ⟨rfl, hs.1, hs.2.1, hs.2.2.1, hs.2.2.2.1, hs.2.2.2.2.1, trivial⟩ ?_
    have hgoal : (gs.any (· == (k : Int)) = true) ↔ TgtK rs ex rs.length k := by
      rw [List.any_eq_true, ← hG.2]
      constructor
      · rintro ⟨a, ha, e⟩; rw [← eq_of_beq e]; exact ha
      · intro h; exact ⟨_, h, by simp⟩
    rcases Nat.eq_zero_or_pos k with rfl | hpos
    · refine XS_cons (X_assign (EV_ifexp (TV_cmp (EV_name rfl rfl (EV_int ⟨_, C_gt_int, ?_⟩)))) rfl)
      rw [show decide ((0 : Int) < ((0 : Nat) : Int)) = false from rfl]
      refine EV_none ?_
      refine XS_cons (X_if (TV_bool (TVs_or (TV_cmp (EV_name rfl rfl (EV_int ⟨_, C_eq_int, ?_⟩)))))) 
      rw [show (((0 : Nat) : Int) == 0) = true from rfl]
      refine XS_cons (X_expr (EV_append rfl rfl (EV_name rfl rfl ⟨_, rfl, by simp; omega, XS_nil (XS_nil ⟨ss ++ [((0 : Nat) : Int)], ⟨by rw [List.map_append]; rfl, rfl, rfl, rfl, rfl, trivial⟩, hyes (.inl ⟨rfl, hk⟩)⟩)⟩)))
    · obtain ⟨i, rfl⟩ : ∃ i, k = i + 1 := ⟨k - 1, by omega⟩
      have hil : i < rs.length := by omega
      have hr : rs[i]? = some rs[i] := List.getElem?_eq_getElem hil
      have hro : RowOk rs[i] := hok _ (List.getElem_mem hil)
      generalize rs[i] = r at hr hro
      have hki : ((i + 1 : Nat) : Int) - 1 = (i : Int) := by omega
      have lead : LeadP rs ex ((i + 1 : Nat) : Int) ↔ TgtK rs ex rs.length ((i + 1 : Nat) : Int) ∨ r.ends = true := by
        unfold LeadP
        constructor
        · rintro (q | q | ⟨j, r', h1, h2, h3, h4⟩)
          · omega
          · exact .inl q.1
          · have : j = i := by omega
            subst this
            rw [hr] at h2; cases h2
            exact .inr h3
        · rintro (q | q)
          · exact .inr (.inl ⟨q, by omega⟩)
          · exact .inr (.inr ⟨i, r, by omega, hr, q, by omega⟩)
      refine XS_cons (X_assign (EV_ifexp (TV_cmp (EV_name rfl rfl (EV_int ⟨_, C_gt_int, ?_⟩)))) rfl)
      rw [show decide ((0 : Int) < ((i + 1 : Nat) : Int)) = true from decide_eq_true (by omega)]
      refine EV_item_list (EV_name rfl rfl (EV_bin (EV_name rfl rfl (EV_int ⟨_, B_sub, ⟨_, _, r.d, rfl, rfl, by omega, by omega, by rw [hki]; simp [hr], ?_⟩⟩))))
      refine XS_cons (X_if (TV.mono (Q := fun b σ' => (b = true ↔ LeadP rs ex ((i + 1 : Nat) : Int)) ∧ σ' = [(before_, .val r.d), (at_, .val (.int ((i + 1 : Nat) : Int))), (starts_, .lst (ss.map .int)), (goals_, .val (intsD gs)), (extra_, .val (intsD ex)), (rows_, .val (rowsD rs)), (many_, .val (.int rs.length))]) (TV_bool (TVs_or (TV_cmp (EV_name rfl rfl (EV_int ⟨_, C_eq_int, ?_⟩))))) ?_))
      · rw [show (((i + 1 : Nat) : Int) == 0) = false from beq_eq_false_iff_ne.mpr (by omega)]
        refine TVs_or (TV_cmp (EV_name rfl rfl (EV_name rfl rfl ⟨_, C_in_ints, ?_⟩)))
        split <;> rename_i g1
        · exact ⟨⟨fun _ => lead.mpr (.inl (hgoal.mp g1)), fun _ => rfl⟩, rfl⟩
        · refine TVs_or (TV_cmp (EV_fld rfl rfl (by decide) rfl (EV_tuple (EVs_cons (EV_str (EVs_cons (EV_str (EVs_nil ⟨by simp, _, B_in_strs2, ?_⟩))))))))
          split <;> rename_i g2
          · refine ⟨⟨fun _ => lead.mpr (.inr ?_), fun _ => rfl⟩, rfl⟩
            unfold Row.ends
            rcases Bool.or_eq_true_iff.mp g2 with q | q
            · rw [show (r.nm == sB) = true from q]; rfl
            · rw [show (r.nm == sBR) = true from q]; simp
          · have hB : (r.nm == sB) = false := by
              cases q : r.nm == sB
              · rfl
              · exact absurd (by rw [Bool.or_eq_true_iff]; exact .inl q) g2
            have hBR : (r.nm == sBR) = false := by
              cases q : r.nm == sBR
              · rfl
              · exact absurd (by rw [Bool.or_eq_true_iff]; exact .inr q) g2
            refine TVs_or (TV_cmp (EV_name rfl rfl (EV_call2E (n := 1) N.h18 (rm.le (by decide)) rfl rfl rfl (EV_bin (EV_name rfl rfl (EV_int ⟨_, B_sub, ?_⟩))))))
            rw [hki]
            refine ⟨_, onward_spec T N.h18 hr (by omega) hro, ?_⟩
            rintro d rfl
            refine ⟨_, C_notin_ints, ?_⟩
            have hs2 : (srt (succL r rs.length i)).any (· == ((i + 1 : Nat) : Int)) = r.falls := by
              have e1 : succL r rs.length i = fallL r rs.length i := by
                unfold succL
                rw [if_neg]
                rintro ⟨q, _⟩
                rw [hB] at q; cases q
              have e2 : ∀ x, x ∈ srt (succL r rs.length i) ↔ x ∈ fallL r rs.length i := fun x => by rw [(srt_perm _).mem_iff, e1]
              have e3 : ((i + 1 : Nat) : Int) ∈ fallL r rs.length i ↔ r.falls = true := by
                unfold fallL
                constructor
                · intro h
                  split at h
                  · rename_i q; exact q.1
                  · simp at h
                · intro h
                  rw [if_pos ⟨h, by omega⟩]; simp
              cases hf : r.falls with
              | true => exact List.any_eq_true.mpr ⟨_, (e2 _).mpr (e3.mpr hf), by simp⟩
              | false =>
                cases q : (srt (succL r rs.length i)).any (· == ((i + 1 : Nat) : Int)) with
                | false => rfl
                | true =>
                  obtain ⟨a, ha, e⟩ := List.any_eq_true.mp q
                  rw [eq_of_beq e] at ha
                  rw [e3.mp ((e2 _).mp ha)] at hf; cases hf
            have hends : r.ends = !r.falls := by unfold Row.ends; rw [hB, hBR]; simp
            rw [hs2]
            split <;> rename_i g3
            · exact ⟨⟨fun _ => lead.mpr (.inr (by rw [hends]; exact g3)), fun _ => rfl⟩, rfl⟩
            · refine TVs_nil ⟨⟨fun h => (by cases h), fun h => ?_⟩, rfl⟩
              rcases lead.mp h with q | q
              · exact absurd (hgoal.mpr q) g1
              · rw [hends] at q; exact absurd q g3
      · rintro bb σ' ⟨hb, rfl⟩
        cases bb with
        | true => exact XS_cons (X_expr (EV_append rfl rfl (EV_name rfl rfl ⟨_, rfl, by simp; omega, XS_nil (XS_nil ⟨ss ++ [((i + 1 : Nat) : Int)], ⟨by rw [List.map_append]; rfl, rfl, rfl, rfl, rfl, trivial⟩, hyes (hb.mp rfl)⟩)⟩)))
        | false => exact XS_nil (XS_nil ⟨ss, ⟨rfl, rfl, rfl, rfl, rfl, trivial⟩, hno fun q => by have := hb.mpr q; cases this⟩)
  · rintro σ ⟨ss, hs, hss⟩
    replace hss : SL (LeadP rs ex) ss := ⟨hss.1, fun x => by rw [hss.2]; exact ⟨fun h => h.1, fun h => ⟨h, (h.inside hE).2⟩⟩⟩
    have hsl : ss.length ≤ rs.length := nodup_in (hss.1.imp fun h => Int.ne_of_lt h) fun x hx => ((hss.2 x).mp hx).inside hE
    show XS _ _ _ _
    refine XS_weak [(starts_, .lst (ss.map .int)), (goals_, .val (intsD gs)), (extra_, .val (intsD ex)), (rows_, .val (rowsD rs)), (many_, .val (.int rs.length))] ⟨hs.1, hs.2.1, hs.2.2.1, hs.2.2.2.1, hs.2.2.2.2.1, trivial⟩ ?_
    refine XS_cons (X_assign (EV_listzip T.list rfl T.zip rfl rm.hh (EVs_cons (EV_freeze rfl rfl (EVs_cons (EV_of_EF (EF_concat (EV_of_EF (EF_slice (EV_name rfl rfl ⟨_, rfl, by simp; omega, EPart_some (EV_int ⟨_, rfl, EPart_none ?_⟩)⟩))))))))) rfl)
    rw [sliceD_map, sliceD_tail]
    refine ⟨_, rfl, rfl, _, rfl, EV_of_EF (EF_list (EVs_cons (EV_name rfl rfl (EVs_nil ⟨by simp, _, rfl, rfl, _, rfl, by simp; omega, _, rfl, rfl, EVs_nil ⟨_, _, rfl, by simp; omega, ?_⟩⟩))))⟩
    rw [zip_pairs]
    refine XS_cons (X_if (TV_cmp (EV_call2P N.h10 (blocks_spec T N.toFns2 N.h10 (by omega) (by omega) hE) (rm.le (by decide)) rfl rfl rfl rfl rfl ?_)))
    rintro d ⟨ss', rfl, hss'⟩
    have := hss.uniq hss' fun _ => Iff.rfl
    subst this
    refine EV_name rfl rfl ⟨_, C_ne_data (shaped_pairs _) (shaped_pairs _) hu, ?_⟩
    rw [eqv_self (shaped_pairs _)]
    refine XS_nil ?_
    exact XS_weak [(parts_x_, .val (.list ((partsL ss rs.length).map pairD))), (rows_, .val (rowsD rs)), (many_, .val (.int rs.length))] ⟨rfl, rfl, rfl, trivial⟩ (lawC T N hn hok rm (by rw [partsL_len]; omega) (partsOk hE hss))
end
end

/-! # part O -/
section

section
variable {prog : Program} {w : World} {S : Shared} {nm qual : Str} {doc pm cdv ct : Value} {an : Option Addr} {A : Around} {L f : Addr}

set_option maxHeartbeats 8000000 in
theorem lawA2 (T : Top0 S) (N : FnsL S) {rs : List Row} (hn : rs.length ≤ 14) (hok : ∀ r ∈ rs, RowOk r) (rm : (cL prog w S A nm qual doc pm an cdv ct L f).Room 5) {ex : List Int} (hE : ∀ x ∈ ex, 0 ≤ x ∧ x < rs.length) (hel : ex.length ≤ 3) :
    XS (cL prog w S A nm qual doc pm an cdv ct L f) ((defAt 20).1.drop 4) [(extra_, .val (intsD ex)), (rows_, .val (rowsD rs)), (many_, .val (.int rs.length))] QL := by
  have hu : (cL prog w S A nm qual doc pm an cdv ct L f).A.units + 64 < cLine := by have := rm.hu; unfold cLine; omega
  refine XS_cons (X_own (EF_listof T.list rfl (EAL_of_EV (EV_name rfl rfl ⟨_, rfl, by simp; omega, rfl, ?_⟩))) rfl)
  refine XS_cons (X_for_count (n := rs.length) rm.hh T.range rfl (fun k σ => ∃ gs : List Int, Sub [(goals_, .lst (gs.map .int)), (extra_, .val (intsD ex)), (rows_, .val (rowsD rs)), (many_, .val (.int rs.length))] σ ∧ (∀ x, x ∈ gs ↔ TgtK rs ex k x) ∧ gs.length ≤ 3 + k) rfl (by omega)
    (EV_name rfl rfl ⟨_, rfl, by omega, by simp, ex, ⟨rfl, rfl, rfl, rfl, trivial⟩, fun x => ⟨.inl, fun h => h.elim id fun ⟨i, r, h, _⟩ => absurd h (by omega)⟩, by omega⟩) ?_ ?_)
  · rintro k σ hk ⟨gs, hs, hg, hgl⟩
    have hr : rs[k]? = some rs[k] := List.getElem?_eq_getElem hk
    have hro : RowOk rs[k] := hok _ (List.getElem_mem hk)
    generalize rs[k] = r at hr hro
    refine XS_weak [(at_, .val (.int k)), (goals_, .lst (gs.map .int)), (extra_, .val (intsD ex)), (rows_, .val (rowsD rs)), (many_, .val (.int rs.length))] ⟨rfl, hs.1, hs.2.1, hs.2.2.1, hs.2.2.2.1, trivial⟩ ?_
    refine XS_cons (X_if (TV_bool (TVs_or (TV_cmp (EV_call2 N.h6 (successors_spec T N.toFns0 N.h6 hr (by omega)) (rm.le (by decide)) rfl rfl rfl rfl rfl (EV_call2 N.h18 (onward_spec T N.h18 hr (by omega) hro) (rm.le (by decide)) rfl rfl rfl rfl rfl ⟨_, C_ne_data (shaped_intsD _) (shaped_intsD _) hu, ?_⟩))))))
    rw [eqv_self (shaped_intsD _)]
    refine TVs_or (TV_cmp (EV_call2 N.h7 (called_spec T N.toFns0 N.h7 hr (by omega)) (rm.le (by decide)) rfl rfl rfl rfl rfl (EV_call2 N.h19 (lcalled_spec T N.h19 hr (by omega)) (rm.le (by decide)) rfl rfl rfl rfl rfl ⟨_, C_ne_data (shaped_intsD _) (shaped_intsD _) hu, ?_⟩)))
    rw [eqv_self (shaped_intsD _)]
    refine TVs_nil (XS_nil ?_)
    refine XS_cons (X_if (TV.mono (Q := fun b σ' => (b = true ↔ jumpT r rs.length k (tgt r k)) ∧ σ' = [(at_, .val (.int k)), (goals_, .lst (gs.map .int)), (extra_, .val (intsD ex)), (rows_, .val (rowsD rs)), (many_, .val (.int rs.length))]) (TV_bool (TVs_and (TV_cmp (EV_cell rfl rfl rfl rfl hr (by omega) (by decide) rfl (EV_tuple (EVs_cons (EV_str (EVs_cons (EV_str (EVs_nil ⟨by simp, _, B_in_strs2, ?_⟩))))))))))  ?_))
    · split <;> rename_i g1
      · refine TVs_and (TV_cmp (EV_cell rfl rfl rfl rfl hr (by omega) (by decide) rfl (EV_str ⟨_, C_ne_cd, ?_⟩)))
        split <;> rename_i g2
        · refine TVs_and (TV_chain (EV_int (EV_bin (EV_bin (EV_name rfl rfl (EV_int ⟨_, B_add, EV_cell rfl rfl rfl rfl hr (by omega) (by decide) rfl ⟨_, B_add, ⟨_, C_le_int, ?_⟩⟩⟩))))))
          split <;> rename_i g3
          · have g3 := of_decide_eq_true g3
            refine EV_name rfl rfl ⟨_, C_lt_int, ?_⟩
            split <;> rename_i g4
            · have g4 := of_decide_eq_true g4
              exact TVs_nil ⟨⟨fun _ => ⟨g1, g2, inside_iff.mpr ⟨g3, g4⟩, rfl⟩, fun _ => rfl⟩, rfl⟩
            · have g4 : ¬ _ := fun q => g4 (decide_eq_true q)
              exact ⟨⟨fun h => (by cases h), fun h => absurd (inside_iff.mp h.2.2.1).2 g4⟩, rfl⟩
          · have g3 : ¬ _ := fun q => g3 (decide_eq_true q)
            exact ⟨⟨fun h => (by cases h), fun h => absurd (inside_iff.mp h.2.2.1).1 g3⟩, rfl⟩
        · exact ⟨⟨fun h => (by cases h), fun h => absurd h.2.1 g2⟩, rfl⟩
      · exact ⟨⟨fun h => (by cases h), fun h => absurd h.1 g1⟩, rfl⟩
    · rintro b σ' ⟨hb, rfl⟩
      cases b with
      | true =>
        refine XS_cons (X_expr (EV_append rfl rfl (EV_bin (EV_bin (EV_name rfl rfl (EV_int ⟨_, B_add, EV_cell rfl rfl rfl rfl hr (by omega) (by decide) rfl ⟨_, B_add, _, rfl, by simp; omega, XS_nil (XS_nil ⟨gs ++ [tgt r k], ⟨by rw [List.map_append]; rfl, rfl, rfl, rfl, trivial⟩, fun x => ?_, by simp; omega⟩)⟩⟩))))))
        rw [List.mem_append, hg, TgtK.succ hr, List.mem_singleton]
        have := hb.mp rfl
        constructor
        · rintro (q | q)
          · exact .inl q
          · exact .inr (q ▸ this)
        · rintro (q | q)
          · exact .inl q
          · exact .inr q.2.2.2
      | false =>
        refine XS_nil (XS_nil ⟨gs, ⟨rfl, rfl, rfl, rfl, trivial⟩, fun x => ?_, by omega⟩)
        rw [hg, TgtK.succ hr]
        constructor
        · exact .inl
        · rintro (q | q)
          · exact q
          · have := hb.mpr ⟨q.1, q.2.1, q.2.2.1, rfl⟩; cases this
  · rintro σ ⟨gs, hs, hg, hgl⟩
    show XS _ _ _ _
    refine XS_weak [(goals_, .lst (gs.map .int)), (extra_, .val (intsD ex)), (rows_, .val (rowsD rs)), (many_, .val (.int rs.length))] ⟨hs.1, hs.2.1, hs.2.2.1, hs.2.2.2.1, trivial⟩ ?_
    refine XS_cons (X_assign (EV_of_EF (EF_filter (n := rs.length) (P := fun j => (j : Int) ∈ gs) (σi := [(goals_, .lst (gs.map .int))]) (blockOk [goals_] rfl rfl) rm.hh T.range rfl (by omega) (EV_name rfl rfl ⟨rfl, rfl⟩) ?_ ?_ (fun C => rfl) ?_ ?_)) rfl)
    · intro y hy
      rw [List.mem_singleton.mp hy]; exact ⟨rfl, rfl⟩
    · intro j y hy
      simp only [List.mem_cons, List.not_mem_nil, or_false] at hy
      rcases hy with rfl | rfl | rfl | rfl
      · exact .inl ⟨rfl, rfl⟩
      · exact .inr ⟨rfl, rfl⟩
      · exact .inr ⟨rfl, rfl⟩
      · exact .inr ⟨rfl, rfl⟩
    · intro C j hj
      refine TV_cmpJ (CmpJ_in (EV_name rfl rfl ⟨_, rfl, EAL_own rfl rfl ⟨gs, rfl, ?_, rfl⟩⟩))
      rw [List.any_eq_true]
      constructor
      · rintro ⟨a, ha, e⟩; rw [← eq_of_beq e]; exact ha
      · intro h; exact ⟨_, h, by simp⟩
    · intro ns hns
      have hin : ∀ x, TgtK rs ex rs.length x → 0 ≤ x ∧ x < rs.length := fun x h => by
        rcases h with h | ⟨i, r, _, _, _, _, h3, h4⟩
        · exact hE x h
        · rw [h4]; exact inside_iff.mp h3
      have hG : SL (TgtK rs ex rs.length) ns := ⟨hns.1, fun x => by
        rw [hns.2]
        constructor
        · rintro ⟨j, rfl, _, h⟩; exact (hg _).mp h
        · intro h
          have := hin x h
          exact ⟨x.toNat, by omega, by omega, by rw [show ((x.toNat : Nat) : Int) = x from by omega]; exact (hg _).mpr h⟩⟩
      refine ⟨_, rfl, rfl, ?_⟩
      refine XS_cons (X_if (TV_cmp (EV_call2P N.h8 (targets_spec T N.toFns0 N.h8 (by omega)) (rm.le (by decide)) rfl rfl rfl rfl rfl ?_)))
      rintro d ⟨ts, rfl, hts⟩
      have := hts.uniq hG fun _ => Iff.rfl
      subst this
      refine EV_name rfl rfl ⟨_, C_ne_data (shaped_intsD _) (shaped_intsD _) hu, ?_⟩
      rw [eqv_self (shaped_intsD _)]
      refine XS_nil ?_
      exact XS_weak [(goals_, .val (intsD ts)), (extra_, .val (intsD ex)), (rows_, .val (rowsD rs)), (many_, .val (.int rs.length))] ⟨rfl, rfl, rfl, rfl, trivial⟩ (lawB T N hn hok rm hE hel hG)

set_option maxHeartbeats 8000000 in
theorem law_spec (T : Top0 S) (N : FnsL S) (H : HasFn S (Str.ofString "law") 20 f) {xs : List Int} (hx : xs.length ≤ 1000) :
    Fn prog w S f 6 [.list (xs.map .int)] (fun d => d = .bool true) := by
  obtain ⟨nm, qual, doc, pm, an, cdv, ct, fa⟩ := H.fd
  obtain ⟨nm1, qual1, doc1, pm1, an1, cdv1, ct1, fa15⟩ := N.h15.fd
  obtain ⟨nm2, qual2, doc2, pm2, an2, cdv2, ct2, fa17⟩ := N.h17.fd
  refine Fn_intro fa T.lim (fdOk1 (x := script_) (by decide +kernel) (by decide +kernel) (fun a => rfl)) rfl fun A L rm => ?_
  refine XS_cons (X_own (EF_call N.h15.g fa15 (rm.le (k := 1) (by decide)) rfl (EVs_cons (EV_name rfl rfl (EVs_nil ⟨_, lrow_spec T N.h15 hx, fun n0 F0 => ⟨rfl, ?_⟩⟩)))) rfl)
  refine XS_cons (X_assign (EV_nextmod T N.h16 F0 (rm.le (by decide)) rfl rfl rfl (by decide) fun v n1 v0 v1 F1 => ?_) rfl)
  obtain ⟨m, rfl⟩ : ∃ m : Nat, v = (m : Int) := ⟨v.toNat, by omega⟩
  refine XS_weak [(row_, .lst (n1.map .int)), (many_, .val (.int m))] ⟨rfl, rfl, trivial⟩ ?_
  refine XS_cons (X_assign (EV_of_EF (EF_listcomp (blockOk [row_, many_] rfl rfl) (fun rest acc σ => σ.lookup tmp = none ∧ ∃ (ns : List Int) (rl : List Row), rest.length + rl.length = m ∧ acc = rl.map Row.d ∧ (∀ r ∈ rl, RowOk r) ∧ Fed ns ∧ Sub [(row_, .lst (ns.map .int)), (many_, .val (.int m))] σ)
    (ESrc_range rm.hh T.range rfl (EV_name rfl rfl ⟨m, rfl, by omega, by simp; omega, rfl, n1, [], by simp, rfl, by simp, F1, rfl, rfl, trivial⟩)) ?_ ?_)) rfl)
  · rintro C d rest acc σ ⟨_, ns, rl, h1, rfl, h3, hF, hs⟩
    refine ⟨[(row_, .lst (ns.map .int)), (many_, .val (.int m))], fun q hq => ?_, TIfs_nil ?_⟩
    · simp only [List.mem_cons, List.not_mem_nil, or_false] at hq
      rcases hq with rfl | rfl
      · exact ⟨rfl, hs.1⟩
      · exact ⟨rfl, hs.2.1⟩
    · refine EV_callmut N.h17.g fa17 (rm.le (k := 2) (by decide)).inn rfl rfl rfl (EVs_cons (EV_name rfl rfl (EVs_nil ⟨ns, rfl, _, made_spec T N.h16 N.h17 hF (by omega), ?_⟩)))
      rintro d ns' ⟨r, rfl, hr, hF'⟩
      refine ⟨[(row_, .lst (ns'.map .int)), (many_, .val (.int m))], fun q hq => ?_, rfl, ns', rl ++ [r], by simp at h1 ⊢; omega, by simp, fun x hx => ?_, hF', rfl, rfl, trivial⟩
      · simp only [List.mem_cons, List.not_mem_nil, or_false] at hq
        rcases hq with rfl | rfl
        · exact .inl ⟨rfl, rfl⟩
        · exact .inl ⟨rfl, rfl⟩
      · rcases List.mem_append.mp hx with h | h
        · exact h3 x h
        · rw [List.mem_singleton.mp h]; exact hr
  · rintro acc σ ⟨ht, ns, rs, h1, rfl, hok, F2, hs⟩
    have hm : rs.length = m := by simpa using h1
    subst hm
    refine ⟨_, rfl, ht, ?_⟩
    refine XS_weak [(rows_, .val (rowsD rs)), (row_, .lst (ns.map .int)), (many_, .val (.int rs.length))] ⟨rfl, hs.1, hs.2.1, trivial⟩ ?_
    refine XS_cons (X1.mono (Q := fun o σ' => o = .next ∧ ∃ ex : List Int, (∀ x ∈ ex, 0 ≤ x ∧ x < rs.length) ∧ ex.length ≤ 3 ∧ Sub [(extra_, .val (intsD ex)), (rows_, .val (rowsD rs)), (many_, .val (.int rs.length))] σ') (X_assign (EV_of_EF (EF_ifexp (TV_cmp (EV_name rfl rfl (EV_int ⟨_, C_gt_int, ?_⟩))))) rfl) ?_)
    · split <;> rename_i h1
      · have h1 := of_decide_eq_true h1
        refine EF_sorted_new T.sorted rfl T.mods rm.hh (EF_dictcomp T.mods (blockOk [row_, many_] rfl rfl) (fun rest acc σ => σ.lookup tmp = none ∧ rest.length + acc.length ≤ 3 ∧ DK (fun x : Int => x ∈ acc.map (·.1)) acc ∧ (∀ x : Int, x ∈ acc.map (·.1) → 0 ≤ x ∧ x < rs.length) ∧ ∃ ns : List Int, Fed ns ∧ Sub [(row_, .lst (ns.map .int)), (many_, .val (.int rs.length)), (rows_, .val (rowsD rs))] σ)
          (ESrc_range rm.hh T.range rfl (EV_nextmod T N.h16 F2 (rm.le (by decide)) rfl rfl rfl (by decide) fun v n3 v0 v1 F3 => ⟨v.toNat, by rw [show ((v.toNat : Nat) : Int) = v from by omega], by omega, by simp; omega, rfl, by simp; omega, ⟨by simp, fun x => Iff.rfl⟩, by simp, n3, F3, rfl, rfl, rfl, trivial⟩)) ?_ ?_)
        · rintro C d rest acc σ ⟨_, hl, hd, hin, ns, F3, hs⟩
          refine ⟨[(row_, .lst (ns.map .int)), (many_, .val (.int rs.length))], fun q hq => ?_, ?_⟩
          · simp only [List.mem_cons, List.not_mem_nil, or_false] at hq
            rcases hq with rfl | rfl
            · exact ⟨rfl, hs.1⟩
            · exact ⟨rfl, hs.2.1⟩
          · refine EV_bin (EV_next T N.h16 F3 (rm.le (by decide)).inn rfl rfl rfl fun v n4 v0 v1 F4 => EV_name rfl rfl ⟨_, B_mod (by omega), _, rfl, EV_bool ?_⟩)
            have hb := fmod_pos v (m := (rs.length : Int)) (by omega)
            have hl' := storedD_len acc (Int.fmod v rs.length) (.bool true)
            have hd' : DK (fun x => x ∈ acc.map (·.1) ∨ x = Int.fmod v rs.length) (storedD acc (Int.fmod v rs.length) (.bool true)) := hd.stored fun _ => Iff.rfl
            refine ⟨[(row_, .lst (n4.map .int)), (many_, .val (.int rs.length)), (rows_, .val (rowsD rs))], fun q hq => ?_, rfl, by simp at hl; omega, ⟨hd'.1, fun _ => Iff.rfl⟩, fun x hx => ?_, n4, F4, rfl, rfl, rfl, trivial⟩
            · simp only [List.mem_cons, List.not_mem_nil, or_false] at hq
              rcases hq with rfl | rfl | rfl
              · exact .inl ⟨rfl, rfl⟩
              · exact .inl ⟨rfl, rfl⟩
              · exact .inr ⟨rfl, hs.2.2.1⟩
            · rcases (hd'.2 x).mp hx with h | h
              · exact hin x h
              · rw [h]; exact hb
        · rintro acc σ ⟨ht, hl, hd, hin, ns, F3, hs⟩
          refine ⟨ht, acc, rfl, by simp at hl; omega, fun ns' hp hq => ⟨_, rfl, ht, rfl, ns', fun x hx => hin x (hp.mem_iff.mp hx), ?_, rfl, hs.2.2.1, hs.2.1, trivial⟩⟩
          have := hp.length_eq
          simp at this hl
          omega
      · exact EF_list (EVs_nil ⟨by simp, _, rfl, rfl, rfl, [], by simp, by simp, rfl, rfl, rfl, trivial⟩)
    · rintro o σ' ⟨rfl, ex, hE, hel, hs⟩
      exact XS_weak [(extra_, .val (intsD ex)), (rows_, .val (rowsD rs)), (many_, .val (.int rs.length))] hs (lawA2 T N (by omega) hok (rm) hE hel)
end
end

/-! # part L -/
section

/-- a def of the program's text, by its place -/
def recAt (i : Nat) : Str × Arguments × List Stmt × Scope := match PySem.Challenge.pw_pb0318_01.main.body[i]? with
  | some (.FunctionDef name args body _ _ _ scope _ _ _) => (name, args, body, scope)
  | _ => (default, default, [], default)
def placesL : List Nat := [2, 3, 4, 5, 6, 7, 8, 9, 10, 11, 12, 13, 15, 16, 17, 18, 19, 20]
section
variable {p : Program} {loose : List Str} {mean : ExcName → Option Value} {mg mb : Str → Option Value} {S : Shared}
theorem hasFn_of (T : Top p loose mean mg mb S.heap) (hr : (recsOf p).map (fun d => (d.name, d.params, d.body, d.scope)) = placesL.map recAt) {i : Nat} (hi : i ∈ placesL) {name : Str} (hn : (recAt i).1 = name) (hd : (recAt i).2 = ((defAt i).2.2, (defAt i).1, (defAt i).2.1)) :
    ∃ f, mg name = some (.ref f) ∧ HasFn S name i f := by
  have hm : recAt i ∈ (recsOf p).map (fun d => (d.name, d.params, d.body, d.scope)) := by rw [hr]; exact List.mem_map.mpr ⟨i, hi, rfl⟩
  obtain ⟨d, hdm, e⟩ := List.mem_map.mp hm
  have e1 : d.name = name := by rw [← hn, ← e]
  have e2 : (d.params, d.body, d.scope) = ((defAt i).2.2, (defAt i).1, (defAt i).2.1) := by rw [← hd, ← e]
  injection e2 with e3 e4
  injection e4 with e4 e5
  obtain ⟨a, o, pm, code, doc, h1, h2, h3, h4⟩ := T.fn d hdm
  rw [e1] at h1 h4
  refine ⟨a, h1, ⟨⟨mg, T.g, h1⟩, name, name, doc, pm, none, code, .none, ⟨⟨o, h2, ?_⟩, h4⟩⟩⟩
  rw [h3, e1, e3, e4, e5]
  rfl
theorem built_of (T : Top p loose mean mg mb S.heap) {x : Str} {v : Value} (h : (!(startupNames.contains x) && !(loose.contains x) && !((recsOf p).map (·.name)).contains x && !((litsOf p).map (·.1)).contains x && !((clssOf p loose).map (·.name)).contains x) = true) (hx : x ≠ "__name__") (hv : bootBuiltins x = some v) : BuiltAt S x v := by
  simp only [Bool.and_eq_true, Bool.not_eq_true'] at h
  have nc : ∀ {l : List Str}, l.contains x = false → x ∉ l := fun {l} e m => by rw [List.contains_iff_mem.mpr m] at e; cases e
  exact ⟨mg, mb, T.g, T.free x (nc h.1.1.1.1) (nc h.1.1.1.2) (nc h.1.1.2) (nc h.1.2) (nc h.2), T.b, (T.builtins x hx).trans hv⟩
theorem const_of (T : Top p loose mean mg mb S.heap) {x : Str} {i : Int} (h : valOf p x = some (.int i)) : ∃ t, GlobAt S x (.int i t) := by
  obtain ⟨v, hv, hr⟩ := T.const x _ h
  have := hr S.heap
  cases this with
  | int _ t => exact ⟨t, mg, T.g, hv⟩
theorem mods_of (T : Top p loose mean mg mb S.heap) : ModsOk S := by
  obtain ⟨mc, hn, _⟩ := T.nolimit
  obtain ⟨o, es, ep, e, _⟩ := hn
  exact ⟨_, o, by decide, e⟩
theorem script_of {P : Params} {h : Heap} {l : Addr} {vs : List Value} {xs : List Int} (w1 : Well P h (.ref l) (ofPy (.list (xs.map .int)))) (hL : h.IsList l vs.toArray) (hI : IntsAre vs xs) : Rd h.get? (.ref l) (.list (xs.map .int)) := by
  obtain ⟨o, ho, hc, n, hd⟩ := hL
  generalize hw : ofPy (PyData.list (xs.map .int)) = wd at w1
  cases w1 with
  | @list _ us _ e _ =>
    rw [ho] at e; cases e
    have hu : us.toArray = vs.toArray := by injection hd
    have hu' : us = vs := by simpa using hu
    subst hu'
    exact .list ho (RdAll.ofInts hI)
  | _ => first | (rw [ho] at *; simp_all; done) | (simp [ofPy] at hw)
end
end

/-! # part Y2 -/
section
def fiveL : List (Str × Value) := [(Str.ofString "len", .builtin "len"), (Str.ofString "sorted", .builtin "sorted"), (Str.ofString "range", .type "range"), (Str.ofString "list", .type "list"), (Str.ofString "zip", .type "zip")]
def freeL (p : Program) (loose : List Str) : Bool := fiveL.all fun q => !(startupNames.contains q.1) && !(loose.contains q.1) && !((recsOf p).map (·.name)).contains q.1 && !((litsOf p).map (·.1)).contains q.1 && !((clssOf p loose).map (·.name)).contains q.1
section
variable {p : Program} {loose : List Str} {mean : ExcName → Option Value} {mg mb : Str → Option Value} {S : Shared}
theorem top0_of (T : Top p loose mean mg mb S.heap) (hf : freeL p loose = true) (hv : valOf p (Str.ofString "END_OF_COMMAND") = some (.int 9)) : Top0 S := by
  have h := List.all_eq_true.mp hf
  exact ⟨T.nolimit, mods_of T, built_of T (h (Str.ofString "len", .builtin "len") (by simp [fiveL])) (by decide +kernel) (by decide +kernel), built_of T (h (Str.ofString "sorted", .builtin "sorted") (by simp [fiveL])) (by decide +kernel) (by decide +kernel), built_of T (h (Str.ofString "range", .type "range") (by simp [fiveL])) (by decide +kernel) (by decide +kernel),
    built_of T (h (Str.ofString "list", .type "list") (by simp [fiveL])) (by decide +kernel) (by decide +kernel), built_of T (h (Str.ofString "zip", .type "zip") (by simp [fiveL])) (by decide +kernel) (by decide +kernel), const_of T hv⟩
theorem fnsL_of (T : Top p loose mean mg mb S.heap) (hr : (recsOf p).map (fun d => (d.name, d.params, d.body, d.scope)) = placesL.map recAt) : Nonempty (FnsL S) := by
  obtain ⟨f2, _, h2⟩ := hasFn_of T hr (i := 2) (by decide) rfl rfl
  obtain ⟨f3, _, h3⟩ := hasFn_of T hr (i := 3) (by decide) rfl rfl
  obtain ⟨f4, _, h4⟩ := hasFn_of T hr (i := 4) (by decide) rfl rfl
  obtain ⟨f5, _, h5⟩ := hasFn_of T hr (i := 5) (by decide) rfl rfl
  obtain ⟨f6, _, h6⟩ := hasFn_of T hr (i := 6) (by decide) rfl rfl
  obtain ⟨f7, _, h7⟩ := hasFn_of T hr (i := 7) (by decide) rfl rfl
  obtain ⟨f8, _, h8⟩ := hasFn_of T hr (i := 8) (by decide) rfl rfl
  obtain ⟨f9, _, h9⟩ := hasFn_of T hr (i := 9) (by decide) rfl rfl
  obtain ⟨f10, _, h10⟩ := hasFn_of T hr (i := 10) (by decide) rfl rfl
  obtain ⟨f11, _, h11⟩ := hasFn_of T hr (i := 11) (by decide) rfl rfl
  obtain ⟨f12, _, h12⟩ := hasFn_of T hr (i := 12) (by decide) rfl rfl
  obtain ⟨f13, _, h13⟩ := hasFn_of T hr (i := 13) (by decide) rfl rfl
  obtain ⟨f15, _, h15⟩ := hasFn_of T hr (i := 15) (by decide) rfl rfl
  obtain ⟨f16, _, h16⟩ := hasFn_of T hr (i := 16) (by decide) rfl rfl
  obtain ⟨f17, _, h17⟩ := hasFn_of T hr (i := 17) (by decide) rfl rfl
  obtain ⟨f18, _, h18⟩ := hasFn_of T hr (i := 18) (by decide) rfl rfl
  obtain ⟨f19, _, h19⟩ := hasFn_of T hr (i := 19) (by decide) rfl rfl
  exact ⟨{ f2 := f2, f3 := f3, f4 := f4, f5 := f5, f6 := f6, f7 := f7, f8 := f8, f9 := f9, f10 := f10, f11 := f11, f12 := f12, f13 := f13, f15 := f15, f16 := f16, f17 := f17, f18 := f18, f19 := f19, h2 := h2, h3 := h3, h4 := h4, h5 := h5, h6 := h6, h7 := h7, h8 := h8, h9 := h9, h10 := h10, h11 := h11, h12 := h12, h13 := h13, h15 := h15, h16 := h16, h17 := h17, h18 := h18, h19 := h19 }⟩
theorem law_close {prog : Program} {w : World} {P : Params} (T : Top p loose mean mg mb S.heap) (hr : (recsOf p).map (fun d => (d.name, d.params, d.body, d.scope)) = placesL.map recAt) (hf : freeL p loose = true) (hv : valOf p (Str.ofString "END_OF_COMMAND") = some (.int 9))
    {fa l : Addr} {vs : List Value} {xs : List Int} (hmg : mg (Str.ofString "law") = some (.ref fa)) (w1 : Well P S.heap (.ref l) (ofPy (.list (xs.map .int)))) (hL : S.heap.IsList l vs.toArray) (hI : IntsAre vs xs) (hx : xs.length ≤ 1000) :
    codeAny (model prog w) callerA (.call (.ref fa) ⟨[.ref l], []⟩) (fun res s' => ∃ h' t', res = .ok (.ret (.bool true)) ∧ s' = { S with heap := h', toks := t' } ∧ ∀ b o, S.heap.get? b = some o → h'.get? b = some o) S := by
  obtain ⟨N⟩ := fnsL_of T hr
  obtain ⟨f20, e20, h20⟩ := hasFn_of T hr (i := 20) (name := Str.ofString "law") (by decide) rfl rfl
  rw [hmg] at e20; cases e20
  have F := law_spec (prog := prog) (w := w) (top0_of T hf hv) N h20 hx
  refine codeAny_mono (F callerA rfl (by decide) (by decide) S.heap.get? S [.ref l] ⟨S.heap, S.toks, rfl⟩ (Le.refl _) (Le.refl _) (.cons (script_of w1 hL hI) .nil)) fun res s' h => ?_
  obtain ⟨v, h', t', z', d, rfl, rfl, k, _, _, _, r, rfl⟩ := h
  cases r
  exact ⟨h', t', rfl, rfl, k⟩
end
end

/-! # the head -/
/-- the defs and the named figure of the text -/
def viewL : Program := { PySem.Challenge.pw_pb0318_01 with main := { PySem.Challenge.pw_pb0318_01.main with body := (PySem.Challenge.pw_pb0318_01.main.body.drop 1).take 13 ++ PySem.Challenge.pw_pb0318_01.main.body.drop 15 } }
theorem leftL : LeftO (OpenRow.toRowW PySem.Challenge.rw_pb0318_01.row).prog viewL [] (fun s => xlAt viewL [] s && recOk (RowW.records (OpenRow.toRowW PySem.Challenge.rw_pb0318_01.row)) s) (Hook.obs Hook.none) (Hook.val Hook.none) 1318 := by
  intro w
  kernel_rfl

end Mine

set_option maxRecDepth 100000 in
set_option maxHeartbeats 8000000 in
theorem PySem.Challenge.cw_pb0318_01_holds : PySem.Challenge.rw_pb0318_01.Holds := by
  w_on; o_law
  refine holds_open (q := Mine.viewL) (loose := []) (Xt := fun s => xlAt Mine.viewL [] s && recOk (RowW.records (OpenRow.toRowW PySem.Challenge.rw_pb0318_01.row)) s) (XP := XL Mine.viewL []) (Yf := Hook.obs Hook.none) (Ya := Hook.val Hook.none) (YP := Hook.says Hook.none) (N := 1318) Mine.leftL (Hook.of Hook.none) (Hook.keeps Hook.none) (fun s e => xl_of s (Bool.and_eq_true_iff.mp e).1) XL.keeps (by rfl) (by rfl) (by rfl) (fun s e => recFacts_of (Bool.and_eq_true_iff.mp e).2) (by rfl) (by first | assumption | decide +kernel) (by decide +kernel) ⟨rfl, rfl, rfl, rfl, rfl, by decide +kernel⟩ ?hw ?hc
  (case hw => w_witness2); w_strict (
    intro w s₀ s₁ mg mb G Y fa o pm cd doc dV kV ho hd hcd hD hmg hg args vals as hpre hlay hrd hwl hlo
    refine Ground.open G ?_
    intro T B D TE TW
    clear D TE TW B
    wrow_args hpre hlay hrd hwl hlo
    all_goals (first | refine callC_kw (enter_call ?_) | refine enter_call ?_)
    all_goals (refine codeAny_mono ?_ (fun _ _ g => GoodW.toG g))
    all_goals (refine codeAny_mono (Mine.law_close T (by kernel_rfl) (by kernel_rfl) (by kernel_rfl) hmg (by assumption) (by assumption) (by assumption) (by omega)) fun res s' h => ?_)
    all_goals (obtain ⟨h', t', rfl, rfl, k⟩ := h)
    all_goals (refine ⟨.inl ⟨_, _, [], rfl, raisesW_false (by wrow_none_raised), .bool true, by wrow_post, unshared_nil⟩, k, rfl, hg⟩))
