import PyProof.Rows.All
import Wide.All
import OpenK.AllK
import Wide.FinOn
import KE.KTurns
import PySem.Challenge.RW_sa0338_01
set_option Elab.async false
set_option compiler.extract_closed false
set_option maxRecDepth 100000
set_option linter.unusedVariables false

section
open PySem PySem.W PyProof.Rows
namespace Mine

/-- plain values -/
inductive V where
  | none
  | bool (b : Bool)
  | int (i : Int)
  | list (l : List V)
  | tuple (l : List V)
  | val (v : Value)

mutual
/-- the heap value bears the plain value; no address of X is used -/
def Rep (X : Addr → Prop) (h : Heap) : V → Value → Prop
  | .none, v => v = .none
  | .bool b, v => v = .bool b
  | .int i, v => ∃ t, v = .int i t
  | .val u, v => v = u
  | .list l, v => ∃ a items, v = .ref a ∧ ¬ X a ∧ h.IsList a items ∧ Reps X h l items.toList
  | .tuple l, v => ∃ a items, v = .ref a ∧ ¬ X a ∧ h.IsTuple a items ∧ Reps X h l items.toList
def Reps (X : Addr → Prop) (h : Heap) : List V → List Value → Prop
  | [], vs => vs = []
  | x :: l, vs => ∃ v r, vs = v :: r ∧ Rep X h x v ∧ Reps X h l r
end

def IsSeq (o : Obj) : Prop := ∃ items n, o.data = .seq items n

mutual
theorem Rep.mono {X Y : Addr → Prop} {h h' : Heap} (hk : ∀ b o, ¬ X b → IsSeq o → h.get? b = some o → h'.get? b = some o)
    (hY : ∀ b o, ¬ X b → IsSeq o → h.get? b = some o → ¬ Y b) : ∀ {x : V} {v : Value}, Rep X h x v → Rep Y h' x v
  | .none, _, r => r
  | .bool _, _, r => r
  | .int _, _, r => r
  | .val _, _, r => r
  | .list l, v, r => by
    obtain ⟨a, items, e, hx, ⟨o, ho, hc, n, hd⟩, rs⟩ := r
    exact ⟨a, items, e, hY a o hx ⟨_, _, hd⟩ ho, ⟨o, hk a o hx ⟨_, _, hd⟩ ho, hc, n, hd⟩, Reps.mono hk hY rs⟩
  | .tuple l, v, r => by
    obtain ⟨a, items, e, hx, ⟨o, ho, hc, n, hd⟩, rs⟩ := r
    exact ⟨a, items, e, hY a o hx ⟨_, _, hd⟩ ho, ⟨o, hk a o hx ⟨_, _, hd⟩ ho, hc, n, hd⟩, Reps.mono hk hY rs⟩
theorem Reps.mono {X Y : Addr → Prop} {h h' : Heap} (hk : ∀ b o, ¬ X b → IsSeq o → h.get? b = some o → h'.get? b = some o)
    (hY : ∀ b o, ¬ X b → IsSeq o → h.get? b = some o → ¬ Y b) : ∀ {x : List V} {v : List Value}, Reps X h x v → Reps Y h' x v
  | [], _, r => r
  | x :: l, vs, r => by
    obtain ⟨v, t, e, r1, r2⟩ := r
    exact ⟨v, t, e, Rep.mono hk hY r1, Reps.mono hk hY r2⟩
end

abbrev Kept (h h' : Heap) : Prop := ∀ b o, h.get? b = some o → h'.get? b = some o

theorem Rep.keeps {X : Addr → Prop} {h h' : Heap} {x : V} {v : Value} (r : Rep X h x v) (k : Kept h h') : Rep X h' x v := r.mono (fun b o _ _ e => k b o e) fun _ _ n _ _ => n
theorem Reps.keeps {X : Addr → Prop} {h h' : Heap} {x : List V} {v : List Value} (r : Reps X h x v) (k : Kept h h') : Reps X h' x v := r.mono (fun b o _ _ e => k b o e) fun _ _ n _ _ => n
theorem Rep.weak {X Y : Addr → Prop} {h : Heap} {x : V} {v : Value} (r : Rep X h x v) (k : ∀ a, Y a → X a) : Rep Y h x v := r.mono (fun _ _ _ _ e => e) fun b _ n _ _ y => n (k b y)
theorem Reps.weak {X Y : Addr → Prop} {h : Heap} {x : List V} {v : List Value} (r : Reps X h x v) (k : ∀ a, Y a → X a) : Reps Y h x v := r.mono (fun _ _ _ _ e => e) fun b _ n _ _ y => n (k b y)

theorem Reps.append {X : Addr → Prop} {h : Heap} : ∀ {xs ys : List V} {us vs : List Value}, Reps X h xs us → Reps X h ys vs → Reps X h (xs ++ ys) (us ++ vs)
  | [], _, _, _, r, q => by cases r; exact q
  | x :: xs, _, _, _, r, q => by
    obtain ⟨v, t, rfl, r1, r2⟩ := r
    exact ⟨v, t ++ _, rfl, r1, Reps.append r2 q⟩
theorem Reps.one {X : Addr → Prop} {h : Heap} {x : V} {v : Value} (r : Rep X h x v) : Reps X h [x] [v] := ⟨v, [], rfl, r, rfl⟩
theorem Reps.length {X : Addr → Prop} {h : Heap} : ∀ {xs : List V} {us : List Value}, Reps X h xs us → us.length = xs.length
  | [], _, r => by cases r; rfl
  | x :: xs, _, r => by
    obtain ⟨v, t, rfl, _, r2⟩ := r
    show t.length + 1 = xs.length + 1
    rw [Reps.length r2]
theorem Reps.get {X : Addr → Prop} {h : Heap} : ∀ {xs : List V} {us : List Value} {i : Nat} {x : V}, Reps X h xs us → xs[i]? = some x → ∃ u, us[i]? = some u ∧ Rep X h x u
  | [], _, _, _, _, e => by cases e
  | y :: xs, _, 0, x, r, e => by
    obtain ⟨v, t, rfl, r1, _⟩ := r
    cases e; exact ⟨v, rfl, r1⟩
  | y :: xs, _, i + 1, x, r, e => by
    obtain ⟨v, t, rfl, _, r2⟩ := r
    exact Reps.get (i := i) r2 e
theorem Reps.get' {X : Addr → Prop} {h : Heap} {xs : List V} {us : List Value} {i : Nat} {u : Value} (r : Reps X h xs us) (e : us[i]? = some u) : ∃ x, xs[i]? = some x ∧ Rep X h x u := by
  have hi : i < us.length := (List.getElem?_eq_some_iff.mp e).1
  have hi' : i < xs.length := by rw [← r.length]; exact hi
  obtain ⟨u', e', r'⟩ := r.get (List.getElem?_eq_getElem hi')
  rw [e] at e'; cases e'
  exact ⟨_, List.getElem?_eq_getElem hi', r'⟩
theorem Reps.take {X : Addr → Prop} {h : Heap} : ∀ {xs : List V} {us : List Value} (n : Nat), Reps X h xs us → Reps X h (xs.take n) (us.take n)
  | _, _, 0, _ => rfl
  | [], _, n + 1, r => by cases r; rfl
  | x :: xs, _, n + 1, r => by
    obtain ⟨v, t, rfl, r1, r2⟩ := r
    exact ⟨v, t.take n, rfl, r1, r2.take n⟩
theorem Reps.drop {X : Addr → Prop} {h : Heap} : ∀ {xs : List V} {us : List Value} (n : Nat), Reps X h xs us → Reps X h (xs.drop n) (us.drop n)
  | _, _, 0, r => r
  | [], _, n + 1, r => by cases r; rfl
  | x :: xs, _, n + 1, r => by
    obtain ⟨v, t, rfl, r1, r2⟩ := r
    exact r2.drop n
theorem Reps.set {X : Addr → Prop} {h : Heap} {x : V} {u : Value} : ∀ {xs : List V} {us : List Value} (n : Nat), Reps X h xs us → Rep X h x u → Reps X h (xs.set n x) (us.set n u)
  | [], _, _, r, _ => by cases r; rfl
  | y :: xs, _, 0, r, q => by
    obtain ⟨v, t, rfl, r1, r2⟩ := r
    exact ⟨u, t, rfl, q, r2⟩
  | y :: xs, _, n + 1, r, q => by
    obtain ⟨v, t, rfl, r1, r2⟩ := r
    exact ⟨v, t.set n u, rfl, r1, r2.set n q⟩
theorem Reps.replicate {X : Addr → Prop} {h : Heap} {x : V} {u : Value} (r : Rep X h x u) : ∀ n, Reps X h (List.replicate n x) (List.replicate n u)
  | 0 => rfl
  | n + 1 => ⟨u, _, rfl, r, Reps.replicate r n⟩
theorem Reps.ints {X : Addr → Prop} {h : Heap} : ∀ {is : List Int} {us : List Value}, Reps X h (is.map V.int) us → IntsAre us is
  | [], _, r => by cases r; exact .nil
  | i :: is, _, r => by
    obtain ⟨v, t, rfl, ⟨tk, rfl⟩, r2⟩ := r
    exact .cons _ _ (Reps.ints r2)
theorem Reps.ofInts {X : Addr → Prop} {h : Heap} : ∀ {is : List Int} {us : List Value}, IntsAre us is → Reps X h (is.map V.int) us
  | _, _, .nil => rfl
  | _, _, .cons i t r => ⟨_, _, rfl, ⟨t, rfl⟩, Reps.ofInts r⟩

/-- what a run stands in -/
structure Cx where
  prog : Program
  w : World
  mg : Str → Option Value
  mb : Str → Option Value
  defs : List DefRec

structure TopH (C : Cx) (h : Heap) : Prop where
  g : h.Ns mainGlobals C.mg
  b : h.Ns builtinsNs C.mb
  nolimit : h.NoLimit
  builtins : ∀ x : Str, x ≠ "__name__" → C.mb x = bootBuiltins x
  fn : ∀ d ∈ C.defs, ∃ a o pm code doc, C.mg d.name = some (.ref a) ∧ h.get? a = some o ∧ o.data = .func (Calls.docDef d.name d.params d.body d.scope pm code doc) ∧ h.CodeRec code d.name
theorem TopH.keeps {C : Cx} {h h' : Heap} (T : TopH C h) (hk : Kept h h') : TopH C h' where
  g := T.g.keeps hk
  b := T.b.keeps hk
  nolimit := T.nolimit.keeps hk
  builtins := T.builtins
  fn := fun d hd => let ⟨a, o, pm, code, doc, h1, h2, h3, h4⟩ := T.fn d hd; ⟨a, o, pm, code, doc, h1, hk _ _ h2, h3, h4.keeps hk⟩

structure Room (A : Around) (k : Nat) : Prop where
  handled : A.handled = none
  depth : A.depth + k < recursionLimit
  units : A.units + 16 * k + 100 < cLine
theorem Room.le {A : Around} {j k : Nat} (r : Room A k) (h : j ≤ k) : Room A j := ⟨r.handled, by have := r.depth; omega, by have := r.units; omega⟩
theorem Room.deeper {A : Around} {k : Nat} {env : Env} (r : Room A (k + 1)) : Room (A.deeper env) k :=
  ⟨r.handled, by have := r.depth; show A.depth + 1 + k < _; omega, by have := r.units; show A.units + 3 + 16 * k + 100 < _; omega⟩

structure EnvOk (env : Env) : Prop where
  kind : env.scope.kind = .function
  globals : env.globals = mainGlobals
  builtins : env.builtins = builtinsNs

def Sees (env : Env) (h : Heap) (x : Str) (val : Value) : Prop :=
  (env.kindOf x = some .local ∧ ∃ m, h.Ns env.locals m ∧ m x = some val) ∨
  (env.kindOf x = some .cell ∧ ∃ c, env.cells.lookup x = some c ∧ h.IsCell c (some val))
theorem Sees.keeps {env : Env} {h h' : Heap} {x : Str} {val : Value} (s : Sees env h x val) (k : Kept h h') : Sees env h' x val := by
  rcases s with ⟨a, m, n, e⟩ | ⟨a, c, e, v⟩
  · exact .inl ⟨a, m, n.keeps k, e⟩
  · exact .inr ⟨a, c, e, v.keeps k⟩

/-- name, address, never indexed-stored, items -/
abbrev Owned := List (Str × Addr × Bool × List V)
def own (σa : Owned) : List (Str × Bool × List V) := σa.map fun t => (t.1, t.2.2)

structure Fe (C : Cx) (env : Env) (X : Addr → Prop) (ρ : List (Str × V)) (σa : Owned) (h : Heap) : Prop where
  top : TopH C h
  ok : EnvOk env
  dom : ∀ a, X a → ∃ o, h.get? a = some o
  vars : ∀ x v, ρ.lookup x = some v → ∃ val, Sees env h x val ∧ Rep X h v val
  owns : ∀ t ∈ σa, X t.2.1 ∧ Sees env h t.1 (.ref t.2.1) ∧ ∃ items, h.IsList t.2.1 items ∧ Reps X h t.2.2.2 items.toList

theorem IsTuple.kept {h h' : Heap} (k : Kept h h') {a : Addr} {items : Array Value} (x : h.IsTuple a items) : h'.IsTuple a items := let ⟨o, e, r⟩ := x; ⟨o, k _ _ e, r⟩
theorem IsList.kept {h h' : Heap} (k : Kept h h') {a : Addr} {items : Array Value} (x : h.IsList a items) : h'.IsList a items := let ⟨o, e, r⟩ := x; ⟨o, k _ _ e, r⟩

theorem Fe.keeps {C : Cx} {env : Env} {X : Addr → Prop} {ρ : List (Str × V)} {σa : Owned} {h h' : Heap} (f : Fe C env X ρ σa h) (k : Kept h h') : Fe C env X ρ σa h' where
  top := f.top.keeps k
  ok := f.ok
  dom := fun a x => let ⟨o, e⟩ := f.dom a x; ⟨o, k _ _ e⟩
  vars := fun x v e => let ⟨val, s, r⟩ := f.vars x v e; ⟨val, s.keeps k, r.keeps k⟩
  owns := fun t ht => let ⟨a, b, items, l, r⟩ := f.owns t ht; ⟨a, b.keeps k, items, IsList.kept k l, r.keeps k⟩

theorem keeps_refl (s : Shared) : Keeps s s := ⟨s.heap, s.toks, rfl, fun _ _ e => e⟩
theorem keeps_trans {s s' s'' : Shared} (a : Keeps s s') (b : Keeps s' s'') : Keeps s s'' := by
  obtain ⟨h, t, rfl, k⟩ := a
  obtain ⟨h', t', rfl, k'⟩ := b
  exact ⟨h', t', rfl, fun b o e => k' b o (k b o e)⟩
theorem kept_of {s s' : Shared} (a : Keeps s s') : Kept s.heap s'.heap := by
  obtain ⟨h, t, rfl, k⟩ := a; exact k
theorem keeps_toks (s : Shared) (t : Nat) : Keeps s { s with toks := t } := ⟨s.heap, t, rfl, fun _ _ e => e⟩
theorem keeps_heap (s : Shared) (h : Heap) (k : Kept s.heap h) : Keeps s { s with heap := h } := ⟨h, s.toks, rfl, k⟩
theorem keeps_both (s : Shared) (h : Heap) (t : Nat) (k : Kept s.heap h) : Keeps s { s with heap := h, toks := t } := ⟨h, t, rfl, k⟩

section
variable (C : Cx) (k : Nat) (env : Env) (ρ : List (Str × V)) (σ : List (Str × Bool × List V))
/-- the expression's value, whatever the state -/
def EvE (e : Expr) (v : V) : Prop :=
  ∀ (A : Around) (E : Value → Shared → Prop) (X : Addr → Prop) (σa : Owned) (s : Shared) (Q : Value → Shared → Prop), Room A k → own σa = σ → Fe C env X ρ σa s.heap →
    (∀ s' val, Keeps s s' → Rep X s'.heap v val → Q val s') → wpAny (model C.prog C.w) A (eval e env) Q E s
def EvT (e : Expr) (b : Bool) : Prop :=
  ∀ (A : Around) (E : Value → Shared → Prop) (X : Addr → Prop) (σa : Owned) (s : Shared) (Q : Bool → Shared → Prop), Room A k → own σa = σ → Fe C env X ρ σa s.heap →
    (∀ s', Keeps s s' → Q b s') → wpAny (model C.prog C.w) A (isTrue e env (eval e env)) Q E s
def EvEs (es : List Expr) (vs : List V) : Prop :=
  ∀ (pos : Pos) (A : Around) (E : Value → Shared → Prop) (X : Addr → Prop) (σa : Owned) (s : Shared) (Q : List Value → Shared → Prop), Room A k → own σa = σ → Fe C env X ρ σa s.heap →
    (∀ s' vals, Keeps s s' → Reps X s'.heap vs vals → Q vals s') → wpAny (model C.prog C.w) A (spliced (backTo pos (starEach es env))) Q E s
end
/-- what a call gives back -/
def CallSpec (C : Cx) (k : Nat) (f : Value) (args : List V) (v : V) : Prop :=
  ∀ (A : Around) (E : Value → Shared → Prop) (X : Addr → Prop) (s : Shared) (vals : List Value) (Q : Value → Shared → Prop), Room A k → TopH C s.heap → (∀ a, X a → ∃ o, s.heap.get? a = some o) → Reps X s.heap args vals →
    (∀ s' val, Keeps s s' → Rep X s'.heap v val → Q val s') → wpAny (model C.prog C.w) A (call f vals) Q E s
def BinSpec (C : Cx) (k : Nat) (op : Operator) (a b v : V) : Prop :=
  ∀ (A : Around) (E : Value → Shared → Prop) (X : Addr → Prop) (s : Shared) (x y : Value) (Q : Value → Shared → Prop), Room A k → TopH C s.heap → (∀ a, X a → ∃ o, s.heap.get? a = some o) → Rep X s.heap a x → Rep X s.heap b y →
    (∀ s' val, Keeps s s' → Rep X s'.heap v val → Q val s') → wpAny (model C.prog C.w) A (binaryOp op x y) Q E s
def InSpec (C : Cx) (k : Nat) (op : Operator) (a b v : V) : Prop :=
  ∀ (A : Around) (E : Value → Shared → Prop) (X : Addr → Prop) (s : Shared) (x y : Value) (Q : Value → Shared → Prop), Room A k → TopH C s.heap → (∀ a, X a → ∃ o, s.heap.get? a = some o) → Rep X s.heap a x → Rep X s.heap b y →
    (∀ s' val, Keeps s s' → Rep X s'.heap v val → Q val s') → wpAny (model C.prog C.w) A (inplaceOp op x y) Q E s
def CmpSpec (C : Cx) (k : Nat) (op : CmpOp) (a b : V) (r : Bool) : Prop :=
  ∀ (A : Around) (E : Value → Shared → Prop) (X : Addr → Prop) (s : Shared) (x y : Value) (Q : Value → Shared → Prop), Room A k → TopH C s.heap → (∀ a, X a → ∃ o, s.heap.get? a = some o) → Rep X s.heap a x → Rep X s.heap b y →
    (∀ s', Keeps s s' → Q (.bool r) s') → wpAny (model C.prog C.w) A (compareOp op x y) Q E s
def TruthSpec (C : Cx) (k : Nat) (a : V) (r : Bool) : Prop :=
  ∀ (A : Around) (E : Value → Shared → Prop) (X : Addr → Prop) (s : Shared) (x : Value) (Q : Bool → Shared → Prop), Room A k → TopH C s.heap → Rep X s.heap a x →
    (∀ s', Keeps s s' → Q r s') → wpAny (model C.prog C.w) A (truthy x) Q E s

section
variable {C : Cx} {k : Nat} {env : Env} {ρ : List (Str × V)} {σ : List (Str × Bool × List V)}

theorem EvE.const_int {i : Int} {kk : Nat} {pos : Pos} : EvE C k env ρ σ (.Constant (.int i) kk pos) (.int i) :=
  fun _ _ _ _ s _ _ _ _ h => wpAny_Constant_int (h _ _ (keeps_toks s _) ⟨_, rfl⟩)
theorem EvE.const_bool {b : Bool} {kk : Nat} {pos : Pos} : EvE C k env ρ σ (.Constant (.bool b) kk pos) (.bool b) :=
  fun _ _ _ _ s _ _ _ _ h => wpAny_Constant_bool (h _ _ (keeps_refl s) rfl)
theorem EvE.const_none {kk : Nat} {pos : Pos} : EvE C k env ρ σ (.Constant .none kk pos) .none :=
  fun _ _ _ _ s _ _ _ _ h => wpAny_Constant_none (h _ _ (keeps_refl s) rfl)

theorem sees_load {env : Env} {h : Heap} {x : Str} {val : Value} (sv : Sees env h x val) (ok : EnvOk env) {M : Model} {A : Around} {E : Value → Shared → Prop} {s : Shared} {Q : Value → Shared → Prop} (e : s.heap = h) (hq : Q val s) :
    wpAny M A (loadName env x) Q E s := by
  subst e
  rcases sv with ⟨a, m, n, e⟩ | ⟨a, c, e, v⟩
  · exact wpAny_loadName_local ok.kind a n e hq
  · exact wpAny_loadName_cell ok.kind a e v hq

theorem EvE.name {x : Str} {pos : Pos} {v : V} (e : ρ.lookup x = some v) (hd : (x == ("__debug__" : Str)) = false := by decide) : EvE C k env ρ σ (.Name x pos) v := by
  intro A E X σa s Q _ _ f h
  obtain ⟨val, sv, r⟩ := f.vars x v e
  exact wpAny_Name (sees_load sv f.ok rfl (h s val (keeps_refl s) r)) hd

theorem EvE.bin {op : Operator} {l r : Expr} {pos : Pos} {a b v : V} (hl : EvE C k env ρ σ l a) (hr : EvE C k env ρ σ r b) (hs : BinSpec C k op a b v) : EvE C k env ρ σ (.BinOp l op r pos) v := by
  intro A E X σa s Q rm hσ f h
  refine wpAny_BinOp (hl A E X σa s _ rm hσ f fun s₁ x k₁ r₁ => hr A E X σa s₁ _ rm hσ (f.keeps (kept_of k₁)) fun s₂ y k₂ r₂ => ?_)
  have f₂ := (f.keeps (kept_of k₁)).keeps (kept_of k₂)
  exact hs A E X s₂ x y Q rm f₂.top f₂.dom (r₁.keeps (kept_of k₂)) r₂ fun s₃ val k₃ r₃ => h s₃ val (keeps_trans (keeps_trans k₁ k₂) k₃) r₃

theorem EvE.cmp {op : CmpOp} {l r : Expr} {pos : Pos} {a b : V} {c : Bool} (hl : EvE C k env ρ σ l a) (hr : EvE C k env ρ σ r b) (hs : CmpSpec C k op a b c) (hm : behindInMarks op r = false := by with_unfolding_all rfl) :
    EvE C k env ρ σ (.Compare l [op] [r] pos) (.bool c) := by
  intro A E X σa s Q rm hσ f h
  refine wpAny_Compare1 (hm := hm) (hl A E X σa s _ rm hσ f fun s₁ x k₁ r₁ => hr A E X σa s₁ _ rm hσ (f.keeps (kept_of k₁)) fun s₂ y k₂ r₂ => ?_)
  have f₂ := (f.keeps (kept_of k₁)).keeps (kept_of k₂)
  exact hs A E X s₂ x y Q rm f₂.top f₂.dom (r₁.keeps (kept_of k₂)) r₂ fun s₃ k₃ => h s₃ _ (keeps_trans (keeps_trans k₁ k₂) k₃) rfl

theorem EvT.cmp {op : CmpOp} {l r : Expr} {pos : Pos} {a b : V} {c : Bool} (hl : EvE C k env ρ σ l a) (hr : EvE C k env ρ σ r b) (hs : CmpSpec C k op a b c) (hm : behindInMarks op r = false := by with_unfolding_all rfl) :
    EvT C k env ρ σ (.Compare l [op] [r] pos) c := by
  intro A E X σa s Q rm hσ f h
  refine wpAny_isTrue_Compare1 (hm := hm) (hl A E X σa s _ rm hσ f fun s₁ x k₁ r₁ => hr A E X σa s₁ _ rm hσ (f.keeps (kept_of k₁)) fun s₂ y k₂ r₂ => ?_)
  have f₂ := (f.keeps (kept_of k₁)).keeps (kept_of k₂)
  exact hs A E X s₂ x y _ rm f₂.top f₂.dom (r₁.keeps (kept_of k₂)) r₂ fun s₃ k₃ => wpAny_truthy_bool (h s₃ (keeps_trans (keeps_trans k₁ k₂) k₃))

theorem EvT.value {e : Expr} {v : V} {b : Bool} (hv : EvE C k env ρ σ e v) (ht : TruthSpec C k v b)
    (he : ∀ whole, isTrue e env whole = (do let v ← whole; standAt e.pos; holding [v] (truthy v)) := by intro _; rfl) : EvT C k env ρ σ e b := by
  intro A E X σa s Q rm hσ f h
  refine wpAny_isTrue_value (he := he _) (hv A E X σa s _ rm hσ f fun s₁ x k₁ r₁ => ?_)
  exact ht A E X s₁ x Q rm (f.keeps (kept_of k₁)).top r₁ fun s₂ k₂ => h s₂ (keeps_trans k₁ k₂)
theorem truth_bool {b : Bool} : TruthSpec C k (.bool b) b := fun _ _ _ s _ _ _ _ r h => by cases r; exact wpAny_truthy_bool (h s (keeps_refl s))

theorem EvT.not {e : Expr} {pos : Pos} {b : Bool} (hv : EvT C k env ρ σ e b) : EvT C k env ρ σ (.UnaryOp .Not e pos) (!b) :=
  fun A E X σa s Q rm hσ f h => wpAny_isTrue_Not (hv A E X σa s _ rm hσ f fun s₁ k₁ => h s₁ k₁)

theorem EvT.and {x y : Expr} {pos : Pos} {b c : Bool} (hx : EvT C k env ρ σ x b) (hy : b = true → EvT C k env ρ σ y c) : EvT C k env ρ σ (.BoolOp .And [x, y] pos) (b && c) := by
  intro A E X σa s Q rm hσ f h
  refine wpAny_isTrue_BoolOp (wpAny_allTrue_And_cons (hx A E X σa s _ rm hσ f fun s₁ k₁ => ?_))
  cases b with
  | false => exact h s₁ k₁
  | true =>
    refine wpAny_allTrue_And_cons (hy rfl A E X σa s₁ _ rm hσ (f.keeps (kept_of k₁)) fun s₂ k₂ => ?_)
    cases c with
    | false => exact h s₂ (keeps_trans k₁ k₂)
    | true => exact wpAny_allTrue_And_nil (h s₂ (keeps_trans k₁ k₂))
theorem EvT.or {x y : Expr} {pos : Pos} {b c : Bool} (hx : EvT C k env ρ σ x b) (hy : b = false → EvT C k env ρ σ y c) : EvT C k env ρ σ (.BoolOp .Or [x, y] pos) (b || c) := by
  intro A E X σa s Q rm hσ f h
  refine wpAny_isTrue_BoolOp (wpAny_allTrue_Or_cons (hx A E X σa s _ rm hσ f fun s₁ k₁ => ?_))
  cases b with
  | true => exact h s₁ k₁
  | false =>
    refine wpAny_allTrue_Or_cons (hy rfl A E X σa s₁ _ rm hσ (f.keeps (kept_of k₁)) fun s₂ k₂ => ?_)
    cases c with
    | true => exact h s₂ (keeps_trans k₁ k₂)
    | false => exact wpAny_allTrue_Or_nil (h s₂ (keeps_trans k₁ k₂))
theorem EvT.or3 {x y z : Expr} {pos : Pos} {b c d : Bool} (hx : EvT C k env ρ σ x b) (hy : b = false → EvT C k env ρ σ y c) (hz : b = false → c = false → EvT C k env ρ σ z d) : EvT C k env ρ σ (.BoolOp .Or [x, y, z] pos) (b || (c || d)) := by
  intro A E X σa s Q rm hσ f h
  refine wpAny_isTrue_BoolOp (wpAny_allTrue_Or_cons (hx A E X σa s _ rm hσ f fun s₁ k₁ => ?_))
  cases b with
  | true => exact h s₁ k₁
  | false =>
    refine wpAny_allTrue_Or_cons (hy rfl A E X σa s₁ _ rm hσ (f.keeps (kept_of k₁)) fun s₂ k₂ => ?_)
    cases c with
    | true => exact h s₂ (keeps_trans k₁ k₂)
    | false =>
      refine wpAny_allTrue_Or_cons (hz rfl rfl A E X σa s₂ _ rm hσ ((f.keeps (kept_of k₁)).keeps (kept_of k₂)) fun s₃ k₃ => ?_)
      cases d with
      | true => exact h s₃ (keeps_trans (keeps_trans k₁ k₂) k₃)
      | false => exact wpAny_allTrue_Or_nil (h s₃ (keeps_trans (keeps_trans k₁ k₂) k₃))

theorem EvE.ite {t a b : Expr} {pos : Pos} {c : Bool} {v : V} (ht : EvT C k env ρ σ t c) (ha : c = true → EvE C k env ρ σ a v) (hb : c = false → EvE C k env ρ σ b v) : EvE C k env ρ σ (.IfExp t a b pos) v := by
  intro A E X σa s Q rm hσ f h
  refine wpAny_IfExp (ht A E X σa s _ rm hσ f fun s₁ k₁ => ?_)
  cases c with
  | true => exact ha rfl A E X σa s₁ Q rm hσ (f.keeps (kept_of k₁)) fun s₂ val k₂ r => h s₂ val (keeps_trans k₁ k₂) r
  | false => exact hb rfl A E X σa s₁ Q rm hσ (f.keeps (kept_of k₁)) fun s₂ val k₂ r => h s₂ val (keeps_trans k₁ k₂) r

theorem EvEs.nil : EvEs C k env ρ σ [] [] := fun _ _ _ _ _ s _ _ _ _ h => wpAny_items_nil (h s [] (keeps_refl s) rfl)
theorem EvEs.cons {e : Expr} {rest : List Expr} {v : V} {vs : List V} (hv : EvE C k env ρ σ e v) (hr : EvEs C k env ρ σ rest vs) (he : starEach (e :: rest) env = (false, eval e env) :: starEach rest env := by rfl) :
    EvEs C k env ρ σ (e :: rest) (v :: vs) := by
  intro pos A E X σa s Q rm hσ f h
  refine wpAny_items_cons (he := he) (hv A E X σa s _ rm hσ f fun s₁ x k₁ r₁ => hr pos A E X σa s₁ _ rm hσ (f.keeps (kept_of k₁)) fun s₂ vals k₂ r₂ => ?_)
  exact h s₂ _ (keeps_trans k₁ k₂) ⟨_, _, rfl, r₁.keeps (kept_of k₂), r₂⟩

theorem fresh_not {X : Addr → Prop} {h : Heap} (dom : ∀ a, X a → ∃ o, h.get? a = some o) {a : Addr} (e : h.get? a = none) : ¬ X a := fun x => by
  obtain ⟨o, e'⟩ := dom a x; rw [e] at e'; cases e'

theorem EvE.tuple {es : List Expr} {kk : Nat} {pos : Pos} {vs : List V} (hv : EvEs C k env ρ σ es vs) (hsz : vs.length ≤ sizeLine := by size_fits) : EvE C k env ρ σ (.Tuple es kk pos) (.tuple vs) := by
  intro A E X σa s Q rm hσ f h
  refine wpAny_Tuple (hv pos A E X σa s _ rm hσ f fun s₁ vals k₁ r₁ => ⟨by rw [r₁.length]; exact hsz, ?_⟩)
  have kp : Kept s₁.heap (s₁.heap.push { cls := .type "tuple", data := .seq vals.toArray }) := fun b o e => Heap.get?_push_of_some _ e
  refine h _ _ (keeps_trans k₁ (keeps_heap s₁ _ kp)) ⟨_, vals.toArray, rfl, fresh_not (f.keeps (kept_of k₁)).dom (Heap.get?_none_of_le (Nat.le_refl _)), ⟨_, Heap.get?_push_size _ rfl, rfl, _, rfl⟩, r₁.keeps kp⟩
theorem EvE.list {es : List Expr} {pos : Pos} {vs : List V} (hv : EvEs C k env ρ σ es vs) (hsz : vs.length ≤ sizeLine := by size_fits) : EvE C k env ρ σ (.List es pos) (.list vs) := by
  intro A E X σa s Q rm hσ f h
  refine wpAny_List (hv pos A E X σa s _ rm hσ f fun s₁ vals k₁ r₁ => ⟨by rw [r₁.length]; exact hsz, ?_⟩)
  have kp : Kept s₁.heap (s₁.heap.push { cls := .type "list", data := .seq vals.toArray }) := fun b o e => Heap.get?_push_of_some _ e
  refine h _ _ (keeps_trans k₁ (keeps_heap s₁ _ kp)) ⟨_, vals.toArray, rfl, fresh_not (f.keeps (kept_of k₁)).dom (Heap.get?_none_of_le (Nat.le_refl _)), ⟨_, Heap.get?_push_size _ rfl, rfl, _, rfl⟩, r₁.keeps kp⟩
end

end Mine

end

section
open PySem PySem.W PyProof.Rows
namespace Mine

/-! names of the module, of the built-ins; calls -/
section
variable {C : Cx} {k : Nat} {env : Env} {ρ : List (Str × V)} {σ : List (Str × Bool × List V)}

/-- the module's name x bears f -/
def Glo (C : Cx) (x : Str) (f : Value) : Prop := C.mg x = some f
def Blt (C : Cx) (x : Str) : Prop := C.mg x = none

theorem EvE.glob {x : Str} {pos : Pos} {f : Value} (g : Glo C x f) (hx : env.kindOf x = some .globalImplicit := by rfl) (hd : (x == ("__debug__" : Str)) = false := by decide) :
    EvE C k env ρ σ (.Name x pos) (.val f) := by
  intro A E X σa s Q _ _ fe h
  exact Calls.Name_function_global fe.ok.kind hx (Calls.loadGlobal_global (env := env) (by rw [fe.ok.globals]; exact fe.top.g) g (h s f (keeps_refl s) rfl)) hd
theorem EvE.builtin {x : Str} {pos : Pos} {f : Value} (g : Blt C x) (hb : bootBuiltins x = some f) (hx : env.kindOf x = some .globalImplicit := by rfl) (hn : x ≠ "__name__" := by decide) (hd : (x == ("__debug__" : Str)) = false := by decide) :
    EvE C k env ρ σ (.Name x pos) (.val f) := by
  intro A E X σa s Q _ _ fe h
  exact Calls.Name_function_global fe.ok.kind hx (Calls.loadGlobal_builtin (env := env) (by rw [fe.ok.globals]; exact fe.top.g) g (by rw [fe.ok.builtins]; exact fe.top.b) ((fe.top.builtins x hn).trans hb) (h s f (keeps_refl s) rfl)) hd

/-- a value that a call may take -/
def Callable (C : Cx) (f : Value) : Prop := ∀ (M : Model) (h : Heap), TopH C h → ∃ q, (q = Keeper.frame ∨ q = Keeper.machine ∨ q = Keeper.boundFrame) ∧ Looks M h (keeperOf f) q
theorem callable_builtin {id : String} : Callable C (.builtin id) := fun _ _ _ => ⟨.machine, .inr (.inl rfl), Looks.of_pure rfl⟩
theorem callable_type {id : String} : Callable C (.type id) := fun _ _ _ => ⟨.machine, .inr (.inl rfl), Looks.of_pure rfl⟩
theorem callable_def {d : DefRec} {f : Value} (hd : d ∈ C.defs) (g : Glo C d.name f) : Callable C f := by
  intro M h T
  obtain ⟨a, o, pm, code, doc, h1, h2, h3, h4⟩ := T.fn d hd
  have e : f = .ref a := by unfold Glo at g; rw [h1] at g; exact (Option.some.inj g).symm
  subst e
  refine ⟨.frame, .inl rfl, ?_⟩
  unfold keeperOf
  refine (Looks.ld (part := none) h2).andThen ?_
  rw [h3]; exact Looks.of_pure rfl

theorem wp_call {x : Str} {np pos : Pos} {es : List Expr} {f : Value} {vs : List V} (hf : EvE C k env ρ σ (.Name x np) (.val f)) (hc : Callable C f) (hv : EvEs C k env ρ σ es vs)
    (hp : es ≠ [] ∧ ((starEach es env).any (·.1)) = false) {A : Around} {E : Value → Shared → Prop} {X : Addr → Prop} {σa : Owned} {s : Shared} {Q : Value → Shared → Prop} (rm : Room A k) (hσ : own σa = σ) (fe : Fe C env X ρ σa s.heap)
    (h : ∀ s₂ vals, Keeps s s₂ → Reps X s₂.heap vs vals → wpAny (model C.prog C.w) A (PySem.call f vals) Q E s₂) : wpAny (model C.prog C.w) A (eval (.Call (.Name x np) es [] pos) env) Q E s := by
  refine wpAny_Call_NameR (hf A E X σa s _ rm hσ fe fun s₁ fv k₁ r₁ => ?_)
  have e : fv = f := r₁
  subst e
  have f₁ := fe.keeps (kept_of k₁)
  have key := hv pos A E X σa s₁ (fun a s₂ => TopH C s₂.heap ∧ wpAny (model C.prog C.w) A (PySem.call fv ([] ++ a) []) Q E s₂) rm hσ f₁ fun s₂ vals k₂ r₂ => ⟨(f₁.keeps (kept_of k₂)).top,
    h s₂ vals (keeps_trans k₁ k₂) r₂⟩
  obtain ⟨hne, hpl⟩ := hp
  cases es with
  | nil => exact absurd rfl hne
  | cons e rest =>
    obtain ⟨t, r, hst⟩ : ∃ t r, starEach (e :: rest) env = t :: r := by cases e <;> exact ⟨_, _, rfl⟩
    rw [hst] at key hpl ⊢
    have hb : ∀ l : List (Bool × Sem Value), (backTo pos l).any (·.1) = l.any (·.1) := by
      intro l
      unfold backTo
      rw [List.any_map]; rfl
    refine callWith_of (P := TopH C) (by rw [hb, hpl]; rfl) (fun h T => hc _ h T) ?_
    have ht : t.1 = false := by simpa using (List.any_eq_false.mp hpl) t List.mem_cons_self
    obtain ⟨t1, t2⟩ := t
    subst ht
    exact Calls.evalArgs_plain key

theorem EvE.call {x : Str} {np pos : Pos} {es : List Expr} {f : Value} {vs : List V} {v : V} (hf : EvE C k env ρ σ (.Name x np) (.val f)) (hc : Callable C f) (hv : EvEs C k env ρ σ es vs)
    (hs : CallSpec C k f vs v) (hp : es ≠ [] ∧ ((starEach es env).any (·.1)) = false := by exact ⟨by simp, by rfl⟩) : EvE C k env ρ σ (.Call (.Name x np) es [] pos) v := by
  intro A E X σa s Q rm hσ fe h
  refine wp_call hf hc hv hp rm hσ fe fun s₂ vals k₂ r₂ => ?_
  have f₂ := fe.keeps (kept_of k₂)
  exact hs A E X s₂ vals Q rm f₂.top f₂.dom r₂ fun s₃ val k₃ r₃ => h s₃ val (keeps_trans k₂ k₃) r₃
end

end Mine

end

section
open PySem PySem.W PyProof.Rows
namespace Mine

section
variable {C : Cx} {k : Nat}
theorem bin_add {a b : Int} : BinSpec C k .Add (.int a) (.int b) (.int (a + b)) := by
  rintro A E X s x y Q _ _ _ ⟨t, rfl⟩ ⟨u, rfl⟩ h
  exact add_int (h _ _ (keeps_toks s _) ⟨_, rfl⟩)
theorem bin_sub {a b : Int} : BinSpec C k .Sub (.int a) (.int b) (.int (a - b)) := by
  rintro A E X s x y Q _ _ _ ⟨t, rfl⟩ ⟨u, rfl⟩ h
  exact sub_int (h _ _ (keeps_toks s _) ⟨_, rfl⟩)
theorem bin_mul {a b : Int} (hm : IntMulOk a b) : BinSpec C k .Mult (.int a) (.int b) (.int (a * b)) := by
  rintro A E X s x y Q _ _ _ ⟨t, rfl⟩ ⟨u, rfl⟩ h
  exact PyProof.Rows.mul_int (h _ _ (keeps_toks s _) ⟨_, rfl⟩) hm
theorem bin_mod {a b : Int} (hb : b ≠ 0) : BinSpec C k .Mod (.int a) (.int b) (.int (a.fmod b)) := by
  rintro A E X s x y Q _ _ _ ⟨t, rfl⟩ ⟨u, rfl⟩ h
  exact mod_int hb (h _ _ (keeps_toks s _) ⟨_, rfl⟩)
theorem bin_div {a b : Int} (hb : b ≠ 0) (hs : b.natAbs < 1073741824) : BinSpec C k .FloorDiv (.int a) (.int b) (.int (a.fdiv b)) := by
  rintro A E X s x y Q _ _ _ ⟨t, rfl⟩ ⟨u, rfl⟩ h
  exact floordiv_int hb (h _ _ (keeps_toks s _) ⟨_, rfl⟩) (.inl (PyProof.noPylong_small hs))
theorem bin_pow {a n : Int} (hn : 0 ≤ n) (hn2 : n ≤ 1000000) (ha : a.natAbs < 2 ^ 64) : BinSpec C k .Pow (.int a) (.int n) (.int (a ^ n.toNat)) := by
  rintro A E X s x y Q _ _ _ ⟨t, rfl⟩ ⟨u, rfl⟩ h
  exact pow_int_small hn hn2 ha (h _ _ (keeps_toks s _) ⟨_, rfl⟩)
theorem bin_shl {a n : Int} (hn : 0 ≤ n) (hn2 : n ≤ 1000000) (ha : a.natAbs < 2 ^ 64) : BinSpec C k .LShift (.int a) (.int n) (.int (a * 2 ^ n.toNat)) := by
  rintro A E X s x y Q _ _ _ ⟨t, rfl⟩ ⟨u, rfl⟩ h
  exact lshift_int_small hn hn2 ha (h _ _ (keeps_toks s _) ⟨_, rfl⟩)
theorem bin_shr {a n : Int} (hn : 0 ≤ n) : BinSpec C k .RShift (.int a) (.int n) (.int (a.fdiv (2 ^ n.toNat))) := by
  rintro A E X s x y Q _ _ _ ⟨t, rfl⟩ ⟨u, rfl⟩ h
  exact rshift_int hn (h _ _ (keeps_toks s _) ⟨_, rfl⟩)
theorem bin_and {a b : Int} : BinSpec C k .BitAnd (.int a) (.int b) (.int (Builtin.bitAnd a b)) := by
  rintro A E X s x y Q _ _ _ ⟨t, rfl⟩ ⟨u, rfl⟩ h
  exact and_int (h _ _ (keeps_toks s _) ⟨_, rfl⟩)
theorem bin_xor {a b : Int} : BinSpec C k .BitXor (.int a) (.int b) (.int (Builtin.bitXor a b)) := by
  rintro A E X s x y Q _ _ _ ⟨t, rfl⟩ ⟨u, rfl⟩ h
  exact xor_int (h _ _ (keeps_toks s _) ⟨_, rfl⟩)
theorem in_add {a b : Int} : InSpec C k .Add (.int a) (.int b) (.int (a + b)) := by
  rintro A E X s x y Q _ _ _ ⟨t, rfl⟩ ⟨u, rfl⟩ h
  exact iadd_int (h _ _ (keeps_toks s _) ⟨_, rfl⟩)
theorem in_sub {a b : Int} : InSpec C k .Sub (.int a) (.int b) (.int (a - b)) := by
  rintro A E X s x y Q _ _ _ ⟨t, rfl⟩ ⟨u, rfl⟩ h
  exact isub_int (h _ _ (keeps_toks s _) ⟨_, rfl⟩)
theorem in_shr {a n : Int} (hn : 0 ≤ n) : InSpec C k .RShift (.int a) (.int n) (.int (a.fdiv (2 ^ n.toNat))) := by
  rintro A E X s x y Q _ _ _ ⟨t, rfl⟩ ⟨u, rfl⟩ h
  exact irshift_int hn (h _ _ (keeps_toks s _) ⟨_, rfl⟩)
theorem bin_addl {xs ys : List V} (hsz : xs.length + ys.length ≤ sizeLine) : BinSpec C k .Add (.list xs) (.list ys) (.list (xs ++ ys)) := by
  rintro A E X s x y Q _ _ dom ⟨l, us, rfl, hl, hL, rl⟩ ⟨b, vs, rfl, hb, hB, rb⟩ h
  obtain ⟨⟨cls, dd, data, sl⟩, ho, hc, n, hd⟩ := hL
  obtain ⟨⟨cls2, dd2, data2, sl2⟩, ho2, hc2, n2, hd2⟩ := hB
  simp only at hc hd hc2 hd2
  subst hc hd hc2 hd2
  have e1 : us.size = xs.length := by rw [← rl.length]; simp
  have e2 : vs.size = ys.length := by rw [← rb.length]; simp
  refine concat_meets ⟨_, ho, rfl⟩ ⟨_, ho2, rfl⟩ noFill_list_add seq_list_add PySem.F.slot_list_add PySem.F.entry_list_add (PySem.F.args_list_add_2 _ _) (list_addW l b us vs n n2 dd dd2 sl sl2 (by omega)) ⟨ho, ho2, ?_⟩
  have kp : Kept s.heap (s.heap.push { cls := .type "list", data := .seq (us ++ vs) }) := fun b o e => Heap.get?_push_of_some _ e
  exact h _ _ (keeps_heap s _ kp) ⟨_, us ++ vs, rfl, fresh_not dom (Heap.get?_none_of_le (Nat.le_refl _)), ⟨_, Heap.get?_push_size _ rfl, rfl, _, rfl⟩, by rw [Array.toList_append]; exact (rl.keeps kp).append (rb.keeps kp)⟩

theorem flatten_one {α : Type} (x : α) : ∀ n : Nat, (List.replicate n [x]).flatten = List.replicate n x
  | 0 => rfl
  | n + 1 => by rw [List.replicate_succ, List.replicate_succ, List.flatten_cons, flatten_one x n]; rfl

/-- [x] * n -/
theorem bin_rep {x : V} {n : Int} (h0 : n ≤ 1000000) (hlo : -1000000 ≤ n) : BinSpec C k .Mult (.list [x]) (.int n) (.list (List.replicate n.toNat x)) := by
  rintro A E X s lv nv Q _ _ dom ⟨l, us, rfl, hl, hL, rl⟩ ⟨u, rfl⟩ h
  obtain ⟨⟨cls, d, data, sl⟩, ho, hc, m, hd⟩ := hL
  simp only at hc hd
  subst hc hd
  obtain ⟨v, r, hus, rv, hr⟩ := rl
  cases hr
  have e1 : us.size = 1 := by rw [← Array.length_toList, hus]; rfl
  have hmul : us.size * n.toNat = n.toNat := by rw [e1, Nat.one_mul]
  refine wpAny_binaryOp_repeat_ref (T := "list") (U := "int") (by decide) ⟨_, ho, rfl⟩ (fun s' => typeIs_int s' n u) noFill_list_mul F.fills_int_mul F.slot_int_rmul repeat_list F.slot_int_index.lookup
    (call_meets F.slot_int_rmul (typeIs_int s n u) F.entry_int_rmul (F.args_int_rmul_2 _ _) (lm_int_rmul_list_any n u l us m d sl)
      ⟨ho, rfl, ⟨_, ho, rfl⟩, call_meets F.slot_list_mul ⟨_, ho, rfl⟩ F.entry_list_mul (F.args_list_mul_2 _ _)
        (lm_list_mul_any l us m d sl n u (by simp [Builtin.List.listFitsIndex]; omega) (by rw [hmul]; omega) (by rw [hmul]; simp [Builtin.List.listTooLong, sizeLine]; omega))
        ⟨ho, ?_⟩⟩)
  rw [listMul_foldl_if, hus, flatten_one]
  have kp : Kept s.heap (s.heap.push { cls := .type "list", data := .seq (List.replicate n.toNat v).toArray }) := fun b o e => Heap.get?_push_of_some _ e
  exact h _ _ (keeps_heap s _ kp) ⟨_, (List.replicate n.toNat v).toArray, rfl, fresh_not dom (Heap.get?_none_of_le (Nat.le_refl _)), ⟨_, Heap.get?_push_size _ rfl, rfl, _, rfl⟩, Reps.replicate (rv.keeps kp) _⟩

/-! comparisons of ints and bools -/
theorem cmp_lt {a b : Int} : CmpSpec C k .Lt (.int a) (.int b) (decide (a < b)) := by
  rintro A E X s x y Q _ _ _ ⟨t, rfl⟩ ⟨u, rfl⟩ h
  exact lt_int (h s (keeps_refl s))
theorem cmp_gt {a b : Int} : CmpSpec C k .Gt (.int a) (.int b) (decide (b < a)) := by
  rintro A E X s x y Q _ _ _ ⟨t, rfl⟩ ⟨u, rfl⟩ h
  exact gt_int (h s (keeps_refl s))
theorem cmp_le {a b : Int} : CmpSpec C k .LtE (.int a) (.int b) (decide (a ≤ b)) := by
  rintro A E X s x y Q _ _ _ ⟨t, rfl⟩ ⟨u, rfl⟩ h
  exact le_int (h s (keeps_refl s))
theorem cmp_ge {a b : Int} : CmpSpec C k .GtE (.int a) (.int b) (decide (b ≤ a)) := by
  rintro A E X s x y Q _ _ _ ⟨t, rfl⟩ ⟨u, rfl⟩ h
  exact ge_int (h s (keeps_refl s))
theorem cmp_eq {a b : Int} : CmpSpec C k .Eq (.int a) (.int b) (a == b) := by
  rintro A E X s x y Q _ _ _ ⟨t, rfl⟩ ⟨u, rfl⟩ h
  exact eq_int (h s (keeps_refl s))
theorem cmp_ne {a b : Int} : CmpSpec C k .NotEq (.int a) (.int b) (a != b) := by
  rintro A E X s x y Q _ _ _ ⟨t, rfl⟩ ⟨u, rfl⟩ h
  exact ne_int (h s (keeps_refl s))
theorem cmp_neb {a b : Bool} : CmpSpec C k .NotEq (.bool a) (.bool b) (a != b) := by
  rintro A E X s x y Q _ _ _ rfl rfl h
  exact ne_bool (h s (keeps_refl s))

/-! items -/
variable {env : Env} {ρ : List (Str × V)} {σ : List (Str × Bool × List V)}
theorem isTup_of {h : Heap} {a : Addr} {items : Array Value} (x : h.IsTuple a items) : IsTup h a items := x

theorem EvE.item {be ie : Expr} {pos : Pos} {xs : List V} {i : Int} {v : V} (hb : EvE C k env ρ σ be (.list xs)) (hi : EvE C k env ρ σ ie (.int i)) (h0 : 0 ≤ i) (hx : xs[i.toNat]? = some v) (hlen : xs.length < 2 ^ 62)
    (hs : ∀ l u, subscripted ie false (.ref l) (.int i u) = operate [.ref l, .int i u] (getItem (.ref l) (.int i u)) := by intro _ _; with_unfolding_all rfl) :
    EvE C k env ρ σ (.Subscript be ie pos) v := by
  intro A E X σa s Q rm hσ f h
  refine Subscript_ (hb A E X σa s _ rm hσ f fun s₁ x k₁ r₁ => hi A E X σa s₁ _ rm hσ (f.keeps (kept_of k₁)) fun s₂ y k₂ r₂ => ?_)
  obtain ⟨t, rfl⟩ := r₂
  obtain ⟨l, us, rfl, _, hL, rl⟩ := r₁.keeps (kept_of k₂)
  obtain ⟨u, hu, ru⟩ := rl.get hx
  have hlt : i.toNat < xs.length := (List.getElem?_eq_some_iff.mp hx).1
  exact tail_any hL.typeIs slot_list_getitem.lookup (wpAny_getItem_list hL h0 (by omega) (by rw [← Array.getElem?_toList]; exact hu) (h s₂ _ (keeps_trans k₁ k₂) ru)) (hs _ _)

theorem EvE.item_neg {be ie : Expr} {pos : Pos} {xs : List V} {i : Int} {v : V} (hb : EvE C k env ρ σ be (.list xs)) (hi : EvE C k env ρ σ ie (.int i)) (h0 : i < 0) (h1 : -(xs.length : Int) ≤ i) (hx : xs[(i + xs.length).toNat]? = some v) (hlen : xs.length < 2 ^ 62)
    (hs : ∀ l u, subscripted ie false (.ref l) (.int i u) = operate [.ref l, .int i u] (getItem (.ref l) (.int i u)) := by intro _ _; with_unfolding_all rfl) :
    EvE C k env ρ σ (.Subscript be ie pos) v := by
  intro A E X σa s Q rm hσ f h
  refine Subscript_ (hb A E X σa s _ rm hσ f fun s₁ x k₁ r₁ => hi A E X σa s₁ _ rm hσ (f.keeps (kept_of k₁)) fun s₂ y k₂ r₂ => ?_)
  obtain ⟨t, rfl⟩ := r₂
  obtain ⟨l, us, rfl, _, hL, rl⟩ := r₁.keeps (kept_of k₂)
  obtain ⟨u, hu, ru⟩ := rl.get hx
  have hsz : us.size = xs.length := by rw [← rl.length]; simp
  exact tail_any hL.typeIs slot_list_getitem.lookup (wpAny_getItem_list_neg hL h0 (by rw [hsz]; exact h1) (by omega) (by rw [← Array.getElem?_toList, hsz]; exact hu) (h s₂ _ (keeps_trans k₁ k₂) ru)) (hs _ _)

theorem EvE.item_tup {be ie : Expr} {pos : Pos} {xs : List V} {i : Int} {v : V} (hb : EvE C k env ρ σ be (.tuple xs)) (hi : EvE C k env ρ σ ie (.int i)) (h0 : 0 ≤ i) (hx : xs[i.toNat]? = some v) (hlen : xs.length < 2 ^ 62)
    (hs : ∀ l u, subscripted ie false (.ref l) (.int i u) = operate [.ref l, .int i u] (getItem (.ref l) (.int i u)) := by intro _ _; with_unfolding_all rfl) :
    EvE C k env ρ σ (.Subscript be ie pos) v := by
  intro A E X σa s Q rm hσ f h
  refine Subscript_ (hb A E X σa s _ rm hσ f fun s₁ x k₁ r₁ => hi A E X σa s₁ _ rm hσ (f.keeps (kept_of k₁)) fun s₂ y k₂ r₂ => ?_)
  obtain ⟨t, rfl⟩ := r₂
  obtain ⟨l, us, rfl, _, hL, rl⟩ := r₁.keeps (kept_of k₂)
  obtain ⟨u, hu, ru⟩ := rl.get hx
  have hlt : i.toNat < xs.length := (List.getElem?_eq_some_iff.mp hx).1
  have hsz : us.size = xs.length := by rw [← rl.length]; simp
  refine tail_any (isTup_of hL).typeIs slot_tuple_getitem.lookup (getItem_tuple (isTup_of hL) (j := i.toNat) (by omega) (by omega) ?_ (by rw [← Array.getElem?_toList]; exact hu) (h s₂ _ (keeps_trans k₁ k₂) ru)) (hs _ _)
  unfold seqIndex?
  simp; omega

/-- an owned list's item -/
theorem EvE.item_own {x : Str} {xp pos : Pos} {ie : Expr} {xs : List V} {fl : Bool} {i : Int} {v : V} (hb : (x, fl, xs) ∈ σ) (hi : EvE C k env ρ σ ie (.int i)) (h0 : 0 ≤ i) (hx : xs[i.toNat]? = some v) (hlen : xs.length < 2 ^ 62)
    (hs : ∀ l u, subscripted ie false (.ref l) (.int i u) = operate [.ref l, .int i u] (getItem (.ref l) (.int i u)) := by intro _ _; with_unfolding_all rfl) (hd : (x == ("__debug__" : Str)) = false := by decide) :
    EvE C k env ρ σ (.Subscript (.Name x xp) ie pos) v := by
  intro A E X σa s Q rm hσ f h
  subst hσ
  obtain ⟨⟨x', a, fl', xs'⟩, ht, he⟩ := List.mem_map.mp hb
  cases he
  obtain ⟨_, sv, items, hL, rl⟩ := f.owns _ ht
  refine Subscript_ (wpAny_Name (sees_load sv f.ok rfl ?_) hd)
  refine hi A E X σa s _ rm rfl f fun s₂ y k₂ r₂ => ?_
  obtain ⟨t, rfl⟩ := r₂
  have hL := IsList.kept (kept_of k₂) hL
  obtain ⟨u, hu, ru⟩ := (rl.keeps (kept_of k₂)).get hx
  have hlt := (List.getElem?_eq_some_iff.mp hx).1
  exact tail_any hL.typeIs slot_list_getitem.lookup (wpAny_getItem_list hL h0 (by omega) (by rw [← Array.getElem?_toList]; exact hu) (h s₂ _ k₂ ru)) (hs _ _)

theorem slice_gen {be : Expr} {lower upper : Option Expr} {sp pos : Pos} {xs : List V} {lo hi : Option Int} {r : List V} {x : Str} {xp : Pos} (hbe : be = .Name x xp) (hb : EvE C k env ρ σ be (.list xs))
    (hlo : match lower, lo with | none, none => True | some e, some i => EvE C k env ρ σ e (.int i) | _, _ => False)
    (hhi : match upper, hi with | none, none => True | some e, some i => EvE C k env ρ σ e (.int i) | _, _ => False)
    (hr : ∀ X h us, Reps X h xs us → Reps X h r (slicePick us.toArray lo hi none).toList) (hlen : xs.length ≤ sizeLine) :
    EvE C k env ρ σ (.Subscript be (.Slice lower upper none sp) pos) (.list r) := by
  intro A E X σa s Q rm hσ f h
  subst hbe
  refine Subscript_ (hb A E X σa s _ rm hσ f fun s₁ bv k₁ r₁ => wpAny_Slice ?_)
  have f₁ := f.keeps (kept_of k₁)
  have part : ∀ (pe : Option Expr) (pi : Option Int) (s₂ : Shared) (Q' : Value → Shared → Prop), (match pe, pi with | none, none => True | some e, some i => EvE C k env ρ σ e (.int i) | _, _ => False) → Fe C env X ρ σa s₂.heap →
      (∀ s' val, Keeps s₂ s' → IsPart val pi → Q' val s') → wpAny (model C.prog C.w) A (evalPart pe env) Q' E s₂ := by
    intro pe pi s₂ Q' hp f₂ hq
    cases pe with
    | none =>
      cases pi with
      | none => rw [evalPart_none]; exact wpAny_pure (hq s₂ _ (keeps_refl s₂) .none)
      | some i => exact hp.elim
    | some e =>
      cases pi with
      | none => exact hp.elim
      | some i =>
        rw [evalPart_some]
        refine hp A E X σa s₂ _ rm hσ f₂ fun s' val kk rr => ?_
        obtain ⟨t, rfl⟩ := rr
        exact hq s' _ kk (.int i t)
  refine part lower lo s₁ _ hlo f₁ fun s₂ lv k₂ pl => part upper hi s₂ _ hhi (f₁.keeps (kept_of k₂)) fun s₃ uv k₃ pu => ?_
  rw [evalPart_none]
  refine wpAny_pure ?_
  obtain ⟨l, us, rfl, _, hL, rl⟩ := (r₁.keeps (kept_of k₂)).keeps (kept_of k₃)
  have hsz : us.size = xs.length := by rw [← rl.length]; simp
  refine slice_listK hL pl pu ?_ (hsz := by rw [hsz]; exact hlen)
  have kp : Kept s₃.heap ((s₃.heap.push { cls := .type "slice", data := .fields #[lv, uv, .none] }).push { cls := .type "list", data := .seq (slicePick us lo hi none) }) := fun b o e => Heap.get?_push_of_some _ (Heap.get?_push_of_some _ e)
  refine h _ _ (keeps_trans (keeps_trans (keeps_trans k₁ k₂) k₃) (keeps_heap s₃ _ kp)) ⟨_, slicePick us lo hi none, rfl, fresh_not ((f₁.keeps (kept_of k₂)).keeps (kept_of k₃)).dom (Heap.get?_none_of_le (Nat.le_succ _)), ⟨{ cls := .type "list", data := .seq (slicePick us lo hi none) }, ?_, rfl, _, rfl⟩, by simpa using (hr X _ us.toList rl).keeps kp⟩
  have e : s₃.heap.objs.size + 1 = (s₃.heap.push { cls := .type "slice", data := .fields #[lv, uv, .none] }).objs.size := (Heap.size_push ..).symm
  rw [e]; exact Heap.get?_push_size _ rfl

theorem pick_upto (us : List Value) (b : Int) (h0 : 0 ≤ b) : (slicePick us.toArray none (some b) none).toList = us.take b.toNat := by
  by_cases hb : b.toNat ≤ us.length
  · have := slicePick_upto us.toArray b.toNat (by simpa using hb)
    rw [Int.toNat_of_nonneg h0] at this
    rw [this]
  · have e : slicePick us.toArray none (some b) none = slicePick us.toArray none none none := by
      unfold slicePick
      have : sliceBounds none (some b) none us.toArray.size = sliceBounds none none none us.toArray.size := by
        unfold sliceBounds
        simp
        omega
      rw [this]
    rw [e, slicePick_all, List.take_of_length_le (by omega)]
theorem EvE.upto {ue : Expr} {sp pos : Pos} {xs : List V} {b : Int} {x : Str} {xp : Pos} (hb : EvE C k env ρ σ (.Name x xp) (.list xs)) (hu : EvE C k env ρ σ ue (.int b)) (h0 : 0 ≤ b) (hlen : xs.length ≤ sizeLine) :
    EvE C k env ρ σ (.Subscript (.Name x xp) (.Slice none (some ue) none sp) pos) (.list (xs.take b.toNat)) :=
  slice_gen (lo := none) (hi := some b) rfl hb trivial hu (fun X h us r => by rw [pick_upto us b h0]; exact r.take _) hlen
theorem EvE.from {ue : Expr} {sp pos : Pos} {xs : List V} {b : Int} {x : Str} {xp : Pos} (hb : EvE C k env ρ σ (.Name x xp) (.list xs)) (hu : EvE C k env ρ σ ue (.int b)) (h0 : 0 ≤ b) (h1 : b.toNat ≤ xs.length) (hlen : xs.length ≤ sizeLine) :
    EvE C k env ρ σ (.Subscript (.Name x xp) (.Slice (some ue) none none sp) pos) (.list (xs.drop b.toNat)) :=
  slice_gen (lo := some b) (hi := none) rfl hb hu trivial (fun X h us r => by
    have := slicePick_from us.toArray b.toNat (by have := r.length; simp; omega)
    rw [Int.toNat_of_nonneg h0] at this
    rw [this]; exact r.drop _) hlen
end

end Mine

end

section
open PySem PySem.W PyProof.Rows
namespace Mine

section
variable {C : Cx} {k : Nat}
theorem call_len {xs : List V} (hlen : xs.length < 2 ^ 62) : CallSpec C k (.builtin "len") [.list xs] (.int xs.length) := by
  rintro A E X s vals Q _ _ _ ⟨v, r, rfl, ⟨l, us, rfl, _, hL, rl⟩, hr⟩ h
  cases hr
  have hsz : us.size = xs.length := by rw [← rl.length]; simp
  refine Calls.call_len_list hL (by rw [hsz]; omega) ?_
  rw [hsz]
  exact h _ _ (keeps_toks s _) ⟨_, rfl⟩
theorem call_abs {a : Int} : CallSpec C k (.builtin "abs") [.int a] (.int (a.natAbs : Int)) := by
  rintro A E X s vals Q _ _ _ ⟨v, r, rfl, ⟨t, rfl⟩, hr⟩ h
  cases hr
  refine call_abs_int fun u tk => ?_
  have e : (if a < 0 then -a else a) = (a.natAbs : Int) := by split <;> omega
  rw [e]
  exact h _ _ (keeps_toks s _) ⟨_, rfl⟩
theorem call_int {a : Int} : CallSpec C k (.type "int") [.int a] (.int a) := by
  rintro A E X s vals Q _ _ _ ⟨v, r, rfl, ⟨t, rfl⟩, hr⟩ h
  cases hr
  exact call_int_int (h _ _ (keeps_refl s) ⟨_, rfl⟩)
theorem call_max {a b : Int} : CallSpec C k (.builtin "max") [.int a, .int b] (.int (max a b)) := by
  rintro A E X s vals Q rm _ _ ⟨v, r, rfl, ⟨t, rfl⟩, v', r', rfl, ⟨u, rfl⟩, hr⟩ h
  cases hr
  refine max_two_ints rm.handled fun h' tk hk => ?_
  split
  · exact h _ _ (keeps_both s h' tk hk) ⟨_, by rw [show max a b = b by omega]⟩
  · exact h _ _ (keeps_both s h' tk hk) ⟨_, by rw [show max a b = a by omega]⟩
theorem call_sum {is : List Int} : CallSpec C k (.builtin "sum") [.list (is.map V.int)] (.int is.sum) := by
  rintro A E X s vals Q rm _ _ ⟨v, r, rfl, ⟨l, us, rfl, _, hL, rl⟩, hr⟩ h
  cases hr
  have hi := rl.ints
  have ha : AllInts us := hi.allInts
  obtain ⟨ys, rfl⟩ := ha.items
  refine sum_intListG rm.handled hL fun h' tk t' hk => ?_
  have e : preSum (numAt ys) ys.size = is.sum := by
    rw [preSum_eq, List.take_of_length_le (by simp), ← nums_intItems, hi.numsOf]
  rw [e]
  exact h _ _ (keeps_both s h' tk hk) ⟨_, rfl⟩
end
end Mine

end

section
open PySem PySem.W PyProof.Rows
namespace Mine

/-! the state of a def's own frame -/
def Has (env : Env) (m cm : Str → Option Value) (x : Str) (val : Value) : Prop :=
  (env.kindOf x = some .local ∧ m x = some val) ∨ (env.kindOf x = some .cell ∧ ∃ c, env.cells.lookup x = some c ∧ cm x = some val)

def XX (env : Env) (X₀ : Addr → Prop) (σa : Owned) : Addr → Prop :=
  fun b => X₀ b ∨ b = env.locals ∨ (∃ n, env.cells.lookup n = some b) ∨ ∃ t ∈ σa, t.2.1 = b

structure StM (C : Cx) (env : Env) (s₀ : Shared) (X₀ : Addr → Prop) (ρ : List (Str × V)) (σa : Owned) (m cm : Str → Option Value) (s : Shared) : Prop where
  top : TopH C s₀.heap
  ok : EnvOk env
  call : InCallC s₀ env.locals m env.cells cm s
  vars : ∀ x v, ρ.lookup x = some v → ∃ val, Has env m cm x val ∧ Rep (XX env X₀ σa) s.heap v val
  owns : ∀ t ∈ σa, Has env m cm t.1 (.ref t.2.1) ∧ (s₀.heap.get? t.2.1 = none ∧ ¬ X₀ t.2.1) ∧ ∃ items, (s.heap.IsList t.2.1 items ∧ (t.2.2.1 = true → s.heap.PlainList t.2.1 items)) ∧ Reps (XX env X₀ σa) s.heap t.2.2.2 items.toList
  apart : σa.Pairwise fun a b => a.1 ≠ b.1 ∧ a.2.1 ≠ b.2.1
  x0 : ∀ a, X₀ a → ∃ o, s.heap.get? a = some o
def St (C : Cx) (env : Env) (s₀ : Shared) (X₀ : Addr → Prop) (ρ : List (Str × V)) (σa : Owned) (s : Shared) : Prop := ∃ m cm, StM C env s₀ X₀ ρ σa m cm s

section
variable {C : Cx} {env : Env} {s₀ s : Shared} {X₀ : Addr → Prop} {ρ : List (Str × V)} {σa : Owned} {m cm : Str → Option Value}

theorem StM.sees (S : StM C env s₀ X₀ ρ σa m cm s) {x : Str} {val : Value} (h : Has env m cm x val) : Sees env s.heap x val := by
  rcases h with ⟨a, b⟩ | ⟨a, c, e, v⟩
  · exact .inl ⟨a, m, S.call.toInCall.ns, b⟩
  · exact .inr ⟨a, c, e, v ▸ S.call.cell x c e⟩
theorem StM.keeps (S : StM C env s₀ X₀ ρ σa m cm s) : Keeps s₀ s := by
  obtain ⟨h, t, e, k⟩ := S.call.done
  exact ⟨h, t, e, k⟩
theorem StM.dom (S : StM C env s₀ X₀ ρ σa m cm s) : ∀ a, XX env X₀ σa a → ∃ o, s.heap.get? a = some o := by
  rintro a (h | rfl | ⟨n, h⟩ | ⟨t, ht, rfl⟩)
  · exact S.x0 a h
  · obtain ⟨o, _, _, e, _⟩ := S.call.toInCall.ns; exact ⟨o, e⟩
  · obtain ⟨o, e, _⟩ := S.call.cell n a h; exact ⟨o, e⟩
  · obtain ⟨_, _, items, ⟨⟨o, e, _⟩, _⟩, _⟩ := S.owns t ht; exact ⟨o, e⟩
theorem StM.fe (S : StM C env s₀ X₀ ρ σa m cm s) : Fe C env (XX env X₀ σa) ρ σa s.heap where
  top := S.top.keeps (kept_of S.keeps)
  ok := S.ok
  dom := S.dom
  vars := fun x v e => let ⟨val, h, r⟩ := S.vars x v e; ⟨val, S.sees h, r⟩
  owns := fun t ht => let ⟨h, _, items, l, r⟩ := S.owns t ht; ⟨.inr (.inr (.inr ⟨t, ht, rfl⟩)), S.sees h, items, l.1, r⟩
theorem St.fe (S : St C env s₀ X₀ ρ σa s) : Fe C env (XX env X₀ σa) ρ σa s.heap := let ⟨_, _, S⟩ := S; S.fe
theorem St.keeps (S : St C env s₀ X₀ ρ σa s) : Keeps s₀ s := let ⟨_, _, S⟩ := S; S.keeps

/-- the state grows -/
theorem StM.grow (S : StM C env s₀ X₀ ρ σa m cm s) {s' : Shared} (k : Keeps s s') : StM C env s₀ X₀ ρ σa m cm s' := by
  obtain ⟨h', t', rfl, kk⟩ := k
  obtain ⟨⟨⟨h, t, rfl⟩, ns, keep, fresh⟩, cell, apart, above⟩ := S.call
  exact {
    top := S.top, ok := S.ok
    call := ⟨⟨⟨h', t', rfl⟩, ns.keeps kk, fun b o e => kk b o (keep b o e), fresh⟩, fun n c e => (cell n c e).keeps kk, apart, above⟩
    vars := fun x v e => let ⟨val, h, r⟩ := S.vars x v e; ⟨val, h, r.keeps kk⟩
    owns := fun t ht => let ⟨h, f, items, l, r⟩ := S.owns t ht; ⟨h, f, items, ⟨IsList.kept kk l.1, fun q => (l.2 q).at fun o e => kk _ o e⟩, r.keeps kk⟩
    apart := S.apart
    x0 := fun a x => let ⟨o, e⟩ := S.x0 a x; ⟨o, kk _ _ e⟩ }
theorem St.grow (S : St C env s₀ X₀ ρ σa s) {s' : Shared} (k : Keeps s s') : St C env s₀ X₀ ρ σa s' := let ⟨m, cm, S⟩ := S; ⟨m, cm, S.grow k⟩

/-- fewer names -/
theorem St.mono (S : St C env s₀ X₀ ρ σa s) {ρ' : List (Str × V)} (h : ∀ x v, ρ'.lookup x = some v → ρ.lookup x = some v) : St C env s₀ X₀ ρ' σa s := by
  obtain ⟨m, cm, S⟩ := S
  exact ⟨m, cm, { S with vars := fun x v e => S.vars x v (h x v e) }⟩

theorem ns_not_seq {h : Heap} {L : Addr} (n : h.Ns L m) {o : Obj} (e : h.get? L = some o) : ¬ IsSeq o := by
  rintro ⟨items, k, hd⟩
  obtain ⟨o', es, ep, e', hd', _⟩ := n
  rw [e] at e'; cases e'
  rw [hd] at hd'; cases hd'
theorem cell_not_seq {h : Heap} {c : Addr} {v : Option Value} (n : h.IsCell c v) {o : Obj} (e : h.get? c = some o) : ¬ IsSeq o := by
  rintro ⟨items, k, hd⟩
  obtain ⟨o', e', hd'⟩ := n
  rw [e] at e'; cases e'
  rw [hd] at hd'; cases hd'

structure Chg (X : Addr → Prop) (h h' : Heap) : Prop where
  same : ∀ b o, ¬ X b → h.get? b = some o → h'.get? b = some o
  dom : ∀ b o, h.get? b = some o → ∃ o', h'.get? b = some o'
theorem Chg.of_keeps {X : Addr → Prop} {s s' : Shared} (k : Keeps s s') : Chg X s.heap s'.heap := ⟨fun b o _ e => kept_of k b o e, fun b o e => ⟨o, kept_of k b o e⟩⟩
theorem Chg.refl {X : Addr → Prop} {h : Heap} : Chg X h h := ⟨fun _ _ _ e => e, fun _ o e => ⟨o, e⟩⟩
theorem Chg.of_but {X : Addr → Prop} {h h' : Heap} {a : Addr} (hs : Heap.SameBut a h h') (hX : X a) (hd : ∃ o, h'.get? a = some o) : Chg X h h' where
  same := fun b o nb e => hs.extBut b o (fun q => nb (q ▸ hX)) e
  dom := fun b o e => by
    by_cases q : b = a
    · rw [q]; exact hd
    · exact ⟨o, hs.extBut b o q e⟩
theorem Rep.chg {X : Addr → Prop} {h h' : Heap} {x : V} {v : Value} (r : Rep X h x v) (c : Chg X h h') : Rep X h' x v := r.mono (fun b o n _ e => c.same b o n e) fun _ _ n _ _ => n
theorem Reps.chg {X : Addr → Prop} {h h' : Heap} {x : List V} {v : List Value} (r : Reps X h x v) (c : Chg X h h') : Reps X h' x v := r.mono (fun b o n _ e => c.same b o n e) fun _ _ n _ _ => n

theorem Chg.le {X Y : Addr → Prop} {h h' : Heap} (c : Chg X h h') (l : ∀ a, X a → Y a) : Chg Y h h' := ⟨fun b o nb e => c.same b o (fun q => nb (l b q)) e, c.dom⟩
/-- the frame itself -/
def FX (env : Env) : Addr → Prop := fun b => b = env.locals ∨ ∃ n, env.cells.lookup n = some b
theorem Chg.fr {h h' : Heap} (c : Chg (FX env) h h') : Chg (XX env X₀ σa) h h' := c.le fun a q => q.elim (fun q => .inr (.inl q)) fun q => .inr (.inr (.inl q))
/-- what the frame may change: itself and its own lists -/
def MX (env : Env) (σa : Owned) : Addr → Prop := XX env (fun _ => False) σa
theorem MX.le {a : Addr} (h : MX env σa a) : XX env X₀ σa a := h.elim False.elim .inr
theorem Chg.mx {h h' : Heap} (c : Chg (MX env σa) h h') : Chg (XX env X₀ σa) h h' := c.le fun _ q => q.le
/-- a name is stored -/
theorem StM.store (S : StM C env s₀ X₀ ρ σa m cm s) {x : Str} {v : V} {val : Value} (r : Rep (XX env X₀ σa) s.heap v val)
    (hx : env.kindOf x = some .local ∨ (env.kindOf x = some .cell ∧ (env.cells.lookup x).isSome = true)) (ho : ∀ t ∈ σa, t.1 ≠ x)
    {M : Model} {A : Around} {E : Value → Shared → Prop} {Q : Unit → Shared → Prop}
    (h : ∀ s', St C env s₀ X₀ ((x, v) :: ρ) σa s' → Chg (FX env) s.heap s'.heap → Q () s') : wpAny M A (storeName env x val) Q E s := by
  have lk : ∀ y w, List.lookup y ((x, v) :: ρ) = some w → (y = x ∧ w = v) ∨ (y ≠ x ∧ ρ.lookup y = some w) := by
    intro y w e
    rw [List.lookup_cons] at e
    by_cases hy : (y == x) = true
    · rw [hy] at e; cases e; exact .inl ⟨eq_of_beq hy, rfl⟩
    · have hy' : (y == x) = false := by simpa using hy
      rw [hy'] at e; exact .inr ⟨fun q => hy (by rw [q]; exact beq_self_eq_true x), e⟩
  have hL₀ : s₀.heap.get? env.locals = none := Heap.get?_none_of_le S.call.toInCall.fresh
  rcases hx with hl | ⟨hc, hs⟩
  · refine wpAny_storeName_local hl S.call.toInCall.ns (fun h' hn' hs' => h _ ?_ ?_) (by rw [S.ok.kind]; rfl)
    · have ch : Chg (XX env X₀ σa) s.heap h' := .of_but hs' (.inr (.inl rfl)) (by obtain ⟨o', _, _, e', _⟩ := hn'; exact ⟨o', e'⟩)
      have has : ∀ y u, y ≠ x → Has env m cm y u → Has env (fun z => if z = x then some val else m z) cm y u := fun y u hy hh => by
        rcases hh with ⟨a, b⟩ | hh
        · exact .inl ⟨a, by simp [hy, b]⟩
        · exact .inr hh
      refine ⟨_, cm, { top := S.top, ok := S.ok, call := ⟨⟨?_, hn', fun b o e => ?_, S.call.toInCall.fresh⟩, fun n c e => ?_, S.call.apart, S.call.above⟩, vars := fun y w e => ?_, owns := fun t ht => ?_, apart := S.apart, x0 := fun a xa => ?_ }⟩
      · obtain ⟨h₁, tk, e⟩ := S.call.toInCall.same
        exact ⟨h', s.toks + 1, by rw [e]⟩
      · exact hs'.extBut b o (fun q => by rw [q, hL₀] at e; cases e) (S.call.toInCall.keep b o e)
      · exact (S.call.cell n c e).sameBut hs' (Nat.ne_of_gt (S.call.above n c (mem_of_lookup e)))
      · rcases lk y w e with ⟨rfl, rfl⟩ | ⟨hy, e⟩
        · exact ⟨val, .inl ⟨hl, by simp⟩, r.chg ch⟩
        · obtain ⟨u, hh, ru⟩ := S.vars y w e
          exact ⟨u, has y u hy hh, ru.chg ch⟩
      · obtain ⟨hh, f, items, l, rs⟩ := S.owns t ht
        have hne : t.2.1 ≠ env.locals := by
          obtain ⟨o, e, hc, n, hd⟩ := l.1
          exact fun q => ns_not_seq S.call.toInCall.ns (q ▸ e) ⟨_, _, hd⟩
        exact ⟨has _ _ (ho t ht) hh, f, items, ⟨l.1.extBut hs'.extBut hne, fun q => (l.2 q).extBut hs'.extBut hne⟩, rs.chg ch⟩
      · obtain ⟨o, e⟩ := S.x0 a xa
        by_cases q : a = env.locals
        · obtain ⟨o', _, _, e', _⟩ := hn'; exact ⟨o', by rw [q]; exact e'⟩
        · exact ⟨o, hs'.extBut a o q e⟩
    · exact .of_but hs' (.inl rfl) (by obtain ⟨o', _, _, e', _⟩ := hn'; exact ⟨o', e'⟩)
  · obtain ⟨c, hcl⟩ := Option.isSome_iff_exists.mp hs
    have hLc := S.call.above x c (mem_of_lookup hcl)
    have hc₀ : s₀.heap.get? c = none := Heap.get?_none_of_le (Nat.le_of_lt (Nat.lt_of_le_of_lt S.call.toInCall.fresh hLc))
    refine wpAny_storeName_cell S.ok.kind hc hcl (S.call.cell x c hcl) fun h' hc' hs' => h _ ?_ ?_
    · have ch : Chg (XX env X₀ σa) s.heap h' := .of_but hs' (.inr (.inr (.inl ⟨x, hcl⟩))) (by obtain ⟨o', e', _⟩ := hc'; exact ⟨o', e'⟩)
      have has : ∀ y u, y ≠ x → Has env m cm y u → Has env m (fun z => if z = x then some val else cm z) y u := fun y u hy hh => by
        rcases hh with hh | ⟨a, c', e, v'⟩
        · exact .inl hh
        · exact .inr ⟨a, c', e, by simp [hy, v']⟩
      refine ⟨m, fun z => if z = x then some val else cm z, { top := S.top, ok := S.ok, call := ⟨⟨?_, S.call.toInCall.ns.sameBut hs' (Nat.ne_of_lt hLc), fun b o e => ?_, S.call.toInCall.fresh⟩, fun n c' e => ?_, S.call.apart, S.call.above⟩, vars := fun y w e => ?_, owns := fun t ht => ?_, apart := S.apart, x0 := fun a xa => ?_ }⟩
      · obtain ⟨h₁, tk, e⟩ := S.call.toInCall.same
        exact ⟨h', s.toks, by rw [e]⟩
      · exact hs'.extBut b o (fun q => by rw [q, hc₀] at e; cases e) (S.call.toInCall.keep b o e)
      · by_cases hn : n = x
        · subst hn; rw [hcl] at e; cases e; simpa using hc'
        · rw [if_neg hn]
          exact (S.call.cell n c' e).sameBut hs' fun q => hn (name_of_addr S.call.apart (mem_of_lookup e) (q ▸ mem_of_lookup hcl))
      · rcases lk y w e with ⟨rfl, rfl⟩ | ⟨hy, e⟩
        · exact ⟨val, .inr ⟨hc, c, hcl, by simp⟩, r.chg ch⟩
        · obtain ⟨u, hh, ru⟩ := S.vars y w e
          exact ⟨u, has y u hy hh, ru.chg ch⟩
      · obtain ⟨hh, f, items, l, rs⟩ := S.owns t ht
        have hne : t.2.1 ≠ c := by
          obtain ⟨o, e, hc2, n, hd⟩ := l.1
          exact fun q => cell_not_seq (S.call.cell x c hcl) (q ▸ e) ⟨_, _, hd⟩
        exact ⟨has _ _ (ho t ht) hh, f, items, ⟨l.1.extBut hs'.extBut hne, fun q => (l.2 q).extBut hs'.extBut hne⟩, rs.chg ch⟩
      · obtain ⟨o, e⟩ := S.x0 a xa
        by_cases q : a = c
        · obtain ⟨o', e', _⟩ := hc'; exact ⟨o', by rw [q]; exact e'⟩
        · exact ⟨o, hs'.extBut a o q e⟩
    · exact .of_but hs' (.inr ⟨x, hcl⟩) (by obtain ⟨o', e', _⟩ := hc'; exact ⟨o', e'⟩)

/-- a list of the frame's own is written: what stood there goes -/
theorem StM.write (S : StM C env s₀ X₀ ρ σa m cm s) {x : Str} {a : Addr} {fl : Bool} {xs ys : List V} {h' : Heap} {items : Array Value} (σ1 σ2 : Owned) (hσ : σa = σ1 ++ (x, a, fl, xs) :: σ2)
    (hs : Heap.SameBut a s.heap h') (hl : h'.IsList a items) (hfl : fl = true → h'.PlainList a items) (hr : Reps (XX env X₀ σa) s.heap ys items.toList) :
    StM C env s₀ X₀ ρ (σ1 ++ (x, a, fl, ys) :: σ2) m cm { s with heap := h' } ∧ Chg (MX env σa) s.heap h' := by
  have hm : (x, a, fl, xs) ∈ σa := by rw [hσ]; simp
  obtain ⟨hha, hf, its, ⟨hlo, _⟩, _⟩ := S.owns _ hm
  have hX : XX env X₀ (σ1 ++ (x, a, fl, ys) :: σ2) = XX env X₀ σa := by
    funext b
    unfold XX
    rw [hσ]
    apply propext
    constructor
    · rintro (q | q | q | ⟨t, ht, rfl⟩)
      · exact .inl q
      · exact .inr (.inl q)
      · exact .inr (.inr (.inl q))
      · refine .inr (.inr (.inr ?_))
        rcases List.mem_append.mp ht with ht | ht
        · exact ⟨t, List.mem_append_left _ ht, rfl⟩
        · rcases List.mem_cons.mp ht with rfl | ht
          · exact ⟨(x, a, fl, xs), by simp, rfl⟩
          · exact ⟨t, List.mem_append_right _ (List.mem_cons_of_mem _ ht), rfl⟩
    · rintro (q | q | q | ⟨t, ht, rfl⟩)
      · exact .inl q
      · exact .inr (.inl q)
      · exact .inr (.inr (.inl q))
      · refine .inr (.inr (.inr ?_))
        rcases List.mem_append.mp ht with ht | ht
        · exact ⟨t, List.mem_append_left _ ht, rfl⟩
        · rcases List.mem_cons.mp ht with rfl | ht
          · exact ⟨(x, a, fl, ys), by simp, rfl⟩
          · exact ⟨t, List.mem_append_right _ (List.mem_cons_of_mem _ ht), rfl⟩
  have ch : Chg (XX env X₀ σa) s.heap h' := .of_but hs (.inr (.inr (.inr ⟨_, hm, rfl⟩))) (by obtain ⟨o', e', _⟩ := hl; exact ⟨o', e'⟩)
  have seq : ∃ o, s.heap.get? a = some o ∧ IsSeq o := by obtain ⟨o, e, _, n, hd⟩ := hlo; exact ⟨o, e, _, _, hd⟩
  obtain ⟨oa, ea, sa⟩ := seq
  have hne : a ≠ env.locals := fun q => ns_not_seq S.call.toInCall.ns (q ▸ ea) sa
  refine ⟨{ top := S.top, ok := S.ok, call := ⟨⟨?_, S.call.toInCall.ns.sameBut hs (Ne.symm hne), fun b o e => ?_, S.call.toInCall.fresh⟩, fun n c e => ?_, S.call.apart, S.call.above⟩, vars := fun y w e => ?_, owns := fun t ht => ?_, apart := ?_, x0 := fun b xb => ?_ }, .of_but hs (.inr (.inr (.inr ⟨_, hm, rfl⟩))) (by obtain ⟨o', e', _⟩ := hl; exact ⟨o', e'⟩)⟩
  · obtain ⟨h₁, tk, e⟩ := S.call.toInCall.same
    exact ⟨h', s.toks, by rw [e]⟩
  · exact hs.extBut b o (fun q => by rw [q, hf.1] at e; cases e) (S.call.toInCall.keep b o e)
  · exact (S.call.cell n c e).sameBut hs fun q => cell_not_seq (S.call.cell n c e) (q ▸ ea) sa
  · obtain ⟨u, hh, ru⟩ := S.vars y w e
    exact ⟨u, hh, by rw [hX]; exact ru.chg ch⟩
  · rw [hX]
    have ap := S.apart
    rw [hσ] at ap
    rcases List.mem_append.mp ht with ht | ht
    · obtain ⟨hh, f, items', l, rs⟩ := S.owns t (by rw [hσ]; exact List.mem_append_left _ ht)
      have hta : t.2.1 ≠ a := ((List.pairwise_append.mp ap).2.2 t ht _ List.mem_cons_self).2
      exact ⟨hh, f, items', ⟨l.1.extBut hs.extBut hta, fun q => (l.2 q).extBut hs.extBut hta⟩, rs.chg ch⟩
    · rcases List.mem_cons.mp ht with rfl | ht
      · exact ⟨hha, hf, items, ⟨hl, hfl⟩, hr.chg ch⟩
      · obtain ⟨hh, f, items', l, rs⟩ := S.owns t (by rw [hσ]; exact List.mem_append_right _ (List.mem_cons_of_mem _ ht))
        have hta : t.2.1 ≠ a := fun q => ((List.pairwise_cons.mp (List.pairwise_append.mp ap).2.1).1 t ht).2 q.symm
        exact ⟨hh, f, items', ⟨l.1.extBut hs.extBut hta, fun q => (l.2 q).extBut hs.extBut hta⟩, rs.chg ch⟩
  · have ap := S.apart
    rw [hσ] at ap
    obtain ⟨p1, p2, p3⟩ := List.pairwise_append.mp ap
    obtain ⟨q1, q2⟩ := List.pairwise_cons.mp p2
    refine List.pairwise_append.mpr ⟨p1, List.pairwise_cons.mpr ⟨fun t ht => q1 t ht, q2⟩, fun t ht u hu => ?_⟩
    rcases List.mem_cons.mp hu with rfl | hu
    · exact p3 t ht (x, a, fl, xs) List.mem_cons_self
    · exact p3 t ht u (List.mem_cons_of_mem _ hu)
  · obtain ⟨o, e⟩ := S.x0 b xb
    by_cases q : b = a
    · obtain ⟨o', e', _⟩ := hl; exact ⟨o', by rw [q]; exact e'⟩
    · exact ⟨o, hs.extBut b o q e⟩
end
end Mine

end

section
open PySem PySem.W PyProof.Rows
namespace Mine

section
variable {C : Cx} {env : Env} {s₀ s : Shared} {X₀ : Addr → Prop} {ρ : List (Str × V)} {σa : Owned} {m cm : Str → Option Value}

/-- new addresses are put out of the values' reach -/
theorem StM.widen (S : StM C env s₀ X₀ ρ σa m cm s) {s' : Shared} (k : Keeps s s') (Z : Addr → Prop) (hz : ∀ a, Z a → s.heap.get? a = none) (hz' : ∀ a, Z a → ∃ o, s'.heap.get? a = some o) :
    StM C env s₀ (fun a => X₀ a ∨ Z a) ρ σa m cm s' := by
  have hX : ∀ b o, ¬ XX env X₀ σa b → IsSeq o → s.heap.get? b = some o → ¬ XX env (fun a => X₀ a ∨ Z a) σa b := by
    rintro b o nb _ e ((h | h) | h)
    · exact nb (.inl h)
    · rw [hz b h] at e; cases e
    · exact nb (.inr h)
  have G := S.grow k
  have kk := kept_of k
  exact { G with
    vars := fun x v e => let ⟨val, h, r⟩ := S.vars x v e; ⟨val, h, r.mono (fun b o _ _ e => kk b o e) hX⟩
    owns := fun t ht => by
      obtain ⟨h, ⟨f, nx⟩, items, l, r⟩ := S.owns t ht
      refine ⟨h, ⟨f, ?_⟩, items, ⟨IsList.kept kk l.1, fun q => (l.2 q).at fun o e => kk _ o e⟩, r.mono (fun b o _ _ e => kk b o e) hX⟩
      rintro (q | q)
      · exact nx q
      · obtain ⟨⟨o, e, _⟩, _⟩ := l; rw [hz _ q] at e; cases e
    x0 := fun a h => by
      rcases h with h | h
      · obtain ⟨o, e⟩ := S.x0 a h; exact ⟨o, kk _ _ e⟩
      · exact hz' a h }

/-- and within reach again -/
theorem StM.narrow {Z : Addr → Prop} (S : StM C env s₀ (fun a => X₀ a ∨ Z a) ρ σa m cm s) : StM C env s₀ X₀ ρ σa m cm s := by
  have hX : ∀ a, XX env X₀ σa a → XX env (fun a => X₀ a ∨ Z a) σa a := fun a h => h.elim (fun q => .inl (.inl q)) .inr
  exact { S with
    vars := fun x v e => let ⟨val, h, r⟩ := S.vars x v e; ⟨val, h, r.weak hX⟩
    owns := fun t ht => let ⟨h, f, items, l, r⟩ := S.owns t ht; ⟨h, ⟨f.1, fun q => f.2 (.inl q)⟩, items, l, r.weak hX⟩
    x0 := fun a h => S.x0 a (.inl h) }

theorem StM.adopt {a : Addr} {x : Str} {fl : Bool} {xs : List V} {items : Array Value} (S : StM C env s₀ (fun b => X₀ b ∨ b = a) ρ σa m cm s) (hh : Has env m cm x (.ref a)) (h0 : s₀.heap.get? a = none) (hx0 : ¬ X₀ a)
    (hl : s.heap.PlainList a items) (hr : Reps (XX env (fun b => X₀ b ∨ b = a) σa) s.heap xs items.toList) (hnew : ∀ t ∈ σa, t.1 ≠ x) :
    StM C env s₀ X₀ ρ ((x, a, fl, xs) :: σa) m cm s := by
  have hX : XX env X₀ ((x, a, fl, xs) :: σa) = XX env (fun b => X₀ b ∨ b = a) σa := by
    funext b
    apply propext
    constructor
    · rintro (q | q | q | ⟨t, ht, rfl⟩)
      · exact .inl (.inl q)
      · exact .inr (.inl q)
      · exact .inr (.inr (.inl q))
      · rcases List.mem_cons.mp ht with rfl | ht
        · exact .inl (.inr rfl)
        · exact .inr (.inr (.inr ⟨t, ht, rfl⟩))
    · rintro ((q | rfl) | q | q | ⟨t, ht, rfl⟩)
      · exact .inl q
      · exact .inr (.inr (.inr ⟨_, List.mem_cons_self, rfl⟩))
      · exact .inr (.inl q)
      · exact .inr (.inr (.inl q))
      · exact .inr (.inr (.inr ⟨t, List.mem_cons_of_mem _ ht, rfl⟩))
  refine { S with vars := fun y v e => ?_, owns := fun t ht => ?_, apart := ?_, x0 := fun b h => S.x0 b (.inl h) }
  · rw [hX]; exact S.vars y v e
  · rw [hX]
    rcases List.mem_cons.mp ht with rfl | ht
    · obtain ⟨n, e⟩ := hl
      exact ⟨hh, ⟨h0, hx0⟩, items, ⟨⟨_, e, rfl, n, rfl⟩, fun _ => ⟨n, e⟩⟩, hr⟩
    · obtain ⟨h, f, r⟩ := S.owns t ht
      exact ⟨h, ⟨f.1, fun q => f.2 (.inl q)⟩, r⟩
  · refine List.pairwise_cons.mpr ⟨fun t ht => ⟨fun q => hnew t ht q.symm, fun q => ?_⟩, S.apart⟩
    obtain ⟨_, f, _⟩ := S.owns t ht
    exact f.2 (.inr q.symm)

theorem St.freeze {σ1 σ2 : Owned} {x : Str} {a : Addr} {fl : Bool} {xs : List V} (S : St C env s₀ X₀ ρ (σ1 ++ (x, a, fl, xs) :: σ2) s) : St C env s₀ X₀ ((x, .list xs) :: ρ) (σ1 ++ σ2) s := by
  obtain ⟨m, cm, S⟩ := S
  have sub : ∀ t, t ∈ σ1 ++ σ2 → t ∈ σ1 ++ (x, a, fl, xs) :: σ2 := fun t ht => by
    rcases List.mem_append.mp ht with h | h
    · exact List.mem_append_left _ h
    · exact List.mem_append_right _ (List.mem_cons_of_mem _ h)
  have hX : ∀ b, XX env X₀ (σ1 ++ σ2) b → XX env X₀ (σ1 ++ (x, a, fl, xs) :: σ2) b := by
    rintro b (q | q | q | ⟨t, ht, rfl⟩)
    · exact .inl q
    · exact .inr (.inl q)
    · exact .inr (.inr (.inl q))
    · exact .inr (.inr (.inr ⟨t, sub t ht, rfl⟩))
  obtain ⟨hh, f, items, l, r⟩ := S.owns (x, a, fl, xs) (by simp)
  have hna : ¬ XX env X₀ (σ1 ++ σ2) a := by
    obtain ⟨o, e, _, n, hd⟩ := l.1
    rintro (q | q | ⟨n', q⟩ | ⟨t, ht, q⟩)
    · exact f.2 q
    · exact ns_not_seq S.call.toInCall.ns (q ▸ e) ⟨_, _, hd⟩
    · exact cell_not_seq (S.call.cell _ _ q) e ⟨_, _, hd⟩
    · have ap := S.apart
      obtain ⟨p1, p2, p3⟩ := List.pairwise_append.mp ap
      obtain ⟨q1, q2⟩ := List.pairwise_cons.mp p2
      rcases List.mem_append.mp ht with ht | ht
      · exact (p3 t ht _ List.mem_cons_self).2 q
      · exact (q1 t ht).2 q.symm
  refine ⟨m, cm, { S with vars := fun y v e => ?_, owns := fun t ht => ?_, apart := ?_ }⟩
  · rw [List.lookup_cons] at e
    by_cases hy : (y == x) = true
    · rw [hy] at e; cases e
      rw [eq_of_beq hy]
      exact ⟨_, hh, ⟨a, items, rfl, hna, l.1, r.weak hX⟩⟩
    · have hy' : (y == x) = false := by simpa using hy
      rw [hy'] at e
      obtain ⟨u, h, ru⟩ := S.vars y v e
      exact ⟨u, h, ru.weak hX⟩
  · obtain ⟨h, f, its, l, r⟩ := S.owns t (sub t ht)
    exact ⟨h, f, its, l, r.weak hX⟩
  · obtain ⟨p1, p2, p3⟩ := List.pairwise_append.mp S.apart
    exact List.pairwise_append.mpr ⟨p1, (List.pairwise_cons.mp p2).2, fun t ht u hu => p3 t ht u (List.mem_cons_of_mem _ hu)⟩
end

/-! statements -/
inductive Out where
  | next (ρ : List (Str × V)) (σ : List (Str × Bool × List V))
  | brk (ρ : List (Str × V)) (σ : List (Str × Bool × List V))
  | cont (ρ : List (Str × V)) (σ : List (Str × Bool × List V))
  | ret (v : V)

def OutIs (C : Cx) (env : Env) (s₀ : Shared) (X₀ : Addr → Prop) (σa : Owned) : Out → Flow → Shared → Prop
  | .next ρ σ, fl, s => fl = .next ∧ own σa = σ ∧ St C env s₀ X₀ ρ σa s
  | .brk ρ σ, fl, s => fl = .brk ∧ own σa = σ ∧ St C env s₀ X₀ ρ σa s
  | .cont ρ σ, fl, s => fl = .cont ∧ own σa = σ ∧ St C env s₀ X₀ ρ σa s
  | .ret v, fl, s => ∃ val, fl = .ret val ∧ Keeps s₀ s ∧ Rep X₀ s.heap v val

def Sub (σ' σ : Owned) (h : Heap) : Prop := ∀ t ∈ σ', (∃ u ∈ σ, u.2.1 = t.2.1) ∨ h.get? t.2.1 = none

def Ends (C : Cx) (env : Env) (s₀ : Shared) (X₀ : Addr → Prop) (σa : Owned) (s : Shared) (P : Out → Prop) (fl : Flow) (s' : Shared) : Prop :=
  ∃ o σa', P o ∧ OutIs C env s₀ X₀ σa' o fl s' ∧ Chg (MX env σa) s.heap s'.heap ∧ Sub σa' σa s.heap

def Ex (C : Cx) (k : Nat) (env : Env) (ρ : List (Str × V)) (σ : List (Str × Bool × List V)) (st : Stmt) (P : Out → Prop) : Prop :=
  ∀ (A : Around) (E : Value → Shared → Prop) (s₀ : Shared) (X₀ : Addr → Prop) (σa : Owned) (s : Shared), Room A k → own σa = σ → St C env s₀ X₀ ρ σa s →
    wpAny (model C.prog C.w) A (exec st env) (Ends C env s₀ X₀ σa s P) E s
def Exs (C : Cx) (k : Nat) (env : Env) (ρ : List (Str × V)) (σ : List (Str × Bool × List V)) (st : List Stmt) (P : Out → Prop) : Prop :=
  ∀ (A : Around) (E : Value → Shared → Prop) (s₀ : Shared) (X₀ : Addr → Prop) (σa : Owned) (s : Shared), Room A k → own σa = σ → St C env s₀ X₀ ρ σa s →
    wpAny (model C.prog C.w) A (execs st env) (Ends C env s₀ X₀ σa s P) E s

theorem Sub.refl {σ : Owned} {h : Heap} : Sub σ σ h := fun t ht => .inl ⟨t, ht, rfl⟩

theorem chg_trans {env : Env} {σa σb : Owned} {h h' h'' : Heap} (c : Chg (MX env σa) h h') (sub : Sub σb σa h) (c' : Chg (MX env σb) h' h'') : Chg (MX env σa) h h'' where
  same := fun b o nb e => by
    refine c'.same b o ?_ (c.same b o nb e)
    rintro (q | q | q | ⟨t, ht, rfl⟩)
    · exact nb (.inl q)
    · exact nb (.inr (.inl q))
    · exact nb (.inr (.inr (.inl q)))
    · rcases sub t ht with ⟨u, hu, q⟩ | q
      · exact nb (.inr (.inr (.inr ⟨u, hu, q⟩)))
      · rw [q] at e; cases e
  dom := fun b o e => by
    obtain ⟨o', e'⟩ := c.dom b o e
    exact c'.dom b o' e'
theorem sub_trans {X : Addr → Prop} {σa σb σc : Owned} {h h' : Heap} (sub : Sub σb σa h) (c : Chg X h h') (sub' : Sub σc σb h') : Sub σc σa h := by
  intro t ht
  rcases sub' t ht with ⟨u, hu, q⟩ | q
  · rcases sub u hu with ⟨v, hv, q'⟩ | q'
    · exact .inl ⟨v, hv, q'.trans q⟩
    · exact .inr (q ▸ q')
  · refine .inr ?_
    cases e : h.get? t.2.1 with
    | none => rfl
    | some o => obtain ⟨o', e'⟩ := c.dom _ o e; rw [q] at e'; cases e'

section
variable {C : Cx} {k : Nat} {env : Env} {ρ : List (Str × V)} {σ : List (Str × Bool × List V)} {P : Out → Prop}

theorem Ex.mono {st : Stmt} {P' : Out → Prop} (h : Ex C k env ρ σ st P) (hp : ∀ o, P o → P' o) : Ex C k env ρ σ st P' :=
  fun A E s₀ X₀ σa s rm hσ S => wpAny_mono (h A E s₀ X₀ σa s rm hσ S) (fun _ _ ⟨o, σa', p, r⟩ => ⟨o, σa', hp o p, r⟩) fun _ _ e => e
theorem Exs.mono {st : List Stmt} {P' : Out → Prop} (h : Exs C k env ρ σ st P) (hp : ∀ o, P o → P' o) : Exs C k env ρ σ st P' :=
  fun A E s₀ X₀ σa s rm hσ S => wpAny_mono (h A E s₀ X₀ σa s rm hσ S) (fun _ _ ⟨o, σa', p, r⟩ => ⟨o, σa', hp o p, r⟩) fun _ _ e => e
theorem Exs.less {st : List Stmt} {ρ' : List (Str × V)} (h : Exs C k env ρ' σ st P) (hp : ∀ x v, ρ'.lookup x = some v → ρ.lookup x = some v) : Exs C k env ρ σ st P :=
  fun A E s₀ X₀ σa s rm hσ S => h A E s₀ X₀ σa s rm hσ (S.mono hp)

theorem Exs.nil (h : P (.next ρ σ)) : Exs C k env ρ σ [] P := by
  intro A E s₀ X₀ σa s rm hσ S
  exact wpAny_execs_nil ⟨_, σa, h, ⟨rfl, hσ, S⟩, Chg.refl, Sub.refl⟩
/-- what comes behind a statement -/
def Then (C : Cx) (k : Nat) (env : Env) (rest : List Stmt) (P : Out → Prop) : Out → Prop
  | .next ρ' σ' => Exs C k env ρ' σ' rest P
  | o => P o
theorem Exs.cons {st : Stmt} {rest : List Stmt} (h : Ex C k env ρ σ st (Then C k env rest P)) : Exs C k env ρ σ (st :: rest) P := by
  intro A E s₀ X₀ σa s rm hσ S
  refine wpAny_execs_cons (wpAny_mono (h A E s₀ X₀ σa s rm hσ S) (fun fl s' hh => ?_) fun _ _ e => e)
  obtain ⟨o, σa', p, hi, ch, sub⟩ := hh
  cases o with
  | next ρ' σ' =>
    obtain ⟨rfl, h1, S'⟩ := hi
    refine wpAny_mono (p A E s₀ X₀ σa' s' rm h1 S') (fun fl s'' hh => ?_) fun _ _ e => e
    obtain ⟨o, σb, p, hi, ch', sub'⟩ := hh
    exact ⟨o, σb, p, hi, chg_trans ch sub ch', sub_trans sub ch sub'⟩
  | brk ρ' σ' => obtain ⟨rfl, r⟩ := hi; exact ⟨.brk ρ' σ', σa', p, ⟨rfl, r⟩, ch, sub⟩
  | cont ρ' σ' => obtain ⟨rfl, r⟩ := hi; exact ⟨.cont ρ' σ', σa', p, ⟨rfl, r⟩, ch, sub⟩
  | ret v => obtain ⟨val, rfl, r⟩ := hi; exact ⟨.ret v, σa', p, ⟨val, rfl, r⟩, ch, sub⟩
end
end Mine

end

section
open PySem PySem.W PyProof.Rows
namespace Mine

section
variable {C : Cx} {k : Nat} {env : Env} {ρ : List (Str × V)} {σ : List (Str × Bool × List V)} {P : Out → Prop}

def Kind (env : Env) (x : Str) : Prop := env.kindOf x = some .local ∨ (env.kindOf x = some .cell ∧ (env.cells.lookup x).isSome = true)

theorem own_ne {σa : Owned} {x : Str} (h : (own σa).all (fun p => p.1 != x) = true) : ∀ t ∈ σa, t.1 ≠ x := fun t ht q => by
  have := List.all_eq_true.mp h (t.1, t.2.2) (List.mem_map.mpr ⟨t, ht, rfl⟩)
  simp [q] at this

theorem Ex.assign {x : Str} {px pos : Pos} {e : Expr} {v : V} (hv : EvE C k env ρ σ e v) (h : P (.next ((x, v) :: ρ) σ))
    (hx : Kind env x := by first | exact .inl rfl | exact .inr ⟨rfl, rfl⟩) (ho : σ.all (fun p => p.1 != x) = true := by rfl) (hs : swapsWith e (some (.Name x px)) pos.line env = pure false := by rfl) :
    Ex C k env ρ σ (.Assign [.Name x px] e pos) P := by
  intro A E s₀ X₀ σa s rm hσ S
  subst hσ
  refine wpAny_Assign_Name (hs := hs) (hv A E _ σa s _ rm rfl S.fe fun s₁ val k₁ r₁ => ?_)
  obtain ⟨m, cm, SM⟩ := S.grow k₁
  exact SM.store r₁ hx (own_ne ho) fun s₂ S₂ ch => ⟨_, σa, h, ⟨rfl, rfl, S₂⟩, chg_trans (Chg.of_keeps k₁) Sub.refl ch.fr, Sub.refl⟩

theorem Ex.aug {x : Str} {px pos : Pos} {op : Operator} {e : Expr} {a b v : V} (hx : ρ.lookup x = some a) (hv : EvE C k env ρ σ e b) (hi : InSpec C k op a b v) (h : P (.next ((x, v) :: ρ) σ))
    (hk : Kind env x := by first | exact .inl rfl | exact .inr ⟨rfl, rfl⟩) (ho : σ.all (fun p => p.1 != x) = true := by rfl) :
    Ex C k env ρ σ (.AugAssign (.Name x px) op e pos) P := by
  intro A E s₀ X₀ σa s rm hσ S
  subst hσ
  have f := S.fe
  obtain ⟨val, sv, r⟩ := f.vars x a hx
  refine wpAny_AugAssign_Name (sees_load sv f.ok rfl ?_)
  refine hv A E _ σa s _ rm rfl f fun s₁ u k₁ r₁ => ?_
  have f₁ := f.keeps (kept_of k₁)
  refine hi A E _ s₁ val u _ rm f₁.top f₁.dom (r.keeps (kept_of k₁)) r₁ fun s₂ w k₂ r₂ => ?_
  obtain ⟨m, cm, SM⟩ := (S.grow k₁).grow k₂
  exact SM.store r₂ hk (own_ne ho) fun s₃ S₃ ch => ⟨_, σa, h, ⟨rfl, rfl, S₃⟩, chg_trans (Chg.of_keeps (keeps_trans k₁ k₂)) Sub.refl ch.fr, Sub.refl⟩

theorem ends_grow {s₀ s s₁ : Shared} {X₀ : Addr → Prop} {σa : Owned} {fl : Flow} {s' : Shared} (k₁ : Keeps s s₁) (h : Ends C env s₀ X₀ σa s₁ P fl s') : Ends C env s₀ X₀ σa s P fl s' := by
  obtain ⟨o, σb, p, hi, ch, sub⟩ := h
  exact ⟨o, σb, p, hi, chg_trans (Chg.of_keeps k₁) Sub.refl ch, sub_trans (X := MX env σa) Sub.refl (Chg.of_keeps k₁) sub⟩

theorem Ex.if {t : Expr} {a b : List Stmt} {pos : Pos} {c : Bool} (ht : EvT C k env ρ σ t c) (ha : c = true → Exs C k env ρ σ a P) (hb : c = false → Exs C k env ρ σ b P) : Ex C k env ρ σ (.If t a b pos) P := by
  intro A E s₀ X₀ σa s rm hσ S
  refine wpAny_If (ht A E _ σa s _ rm hσ S.fe fun s₁ k₁ => ?_)
  cases c with
  | true => exact wpAny_mono (ha rfl A E s₀ X₀ σa s₁ rm hσ (S.grow k₁)) (fun _ _ h => ends_grow k₁ h) fun _ _ e => e
  | false => exact wpAny_mono (hb rfl A E s₀ X₀ σa s₁ rm hσ (S.grow k₁)) (fun _ _ h => ends_grow k₁ h) fun _ _ e => e

theorem Ex.ret {e : Expr} {pos : Pos} {v : V} (hv : EvE C k env ρ σ e v) (h : P (.ret v)) : Ex C k env ρ σ (.Return (some e) pos) P := by
  intro A E s₀ X₀ σa s rm hσ S
  refine wpAny_Return_some (hv A E _ σa s _ rm hσ S.fe fun s₁ val k₁ r₁ => ?_)
  exact ⟨.ret v, σa, h, ⟨val, rfl, keeps_trans S.keeps k₁, r₁.weak fun _ q => .inl q⟩, Chg.of_keeps k₁, Sub.refl⟩

/-- out of a loop's turn -/
def Turn (P : Out → Prop) (next : List (Str × V) → List (Str × Bool × List V) → Prop) : Out → Prop
  | .next ρ σ => next ρ σ
  | .cont ρ σ => next ρ σ
  | .brk ρ σ => P (.next ρ σ)
  | .ret v => P (.ret v)

theorem Ex.while {test : Expr} {body : List Stmt} {pos : Pos} (I : Nat → List (Str × V) → List (Str × Bool × List V) → Prop) (n : Nat) (h0 : I n ρ σ)
    (step : ∀ n ρ σ, I n ρ σ → ∃ c, EvT C k env ρ σ test c ∧ (c = true → Exs C k env ρ σ body (Turn P fun ρ' σ' => ∃ m, m < n ∧ I m ρ' σ')) ∧ (c = false → P (.next ρ σ))) :
    Ex C k env ρ σ (.While test body [] pos) P := by
  intro A E s₀ X₀ σa s rm hσ S
  refine wpAny_While ?_
  refine codeAny_whileLoop (fun n s' => ∃ ρ' σ' σb, I n ρ' σ' ∧ own σb = σ' ∧ St C env s₀ X₀ ρ' σb s' ∧ Chg (MX env σa) s.heap s'.heap ∧ Sub σb σa s.heap) ?_ n ⟨ρ, σ, σa, h0, hσ, S, Chg.refl, Sub.refl⟩
  rintro n s' ⟨ρ', σ', σb, hI, hσb, S', ch, sub⟩
  obtain ⟨c, ht, hT, hF⟩ := step n ρ' σ' hI
  refine ht A _ _ σb s' _ rm hσb S'.fe fun s₁ k₁ => ?_
  have ch₁ : Chg (MX env σa) s.heap s₁.heap := chg_trans ch sub (Chg.of_keeps k₁)
  cases c with
  | false =>
    exact wpAny_execs_nil ⟨_, σb, hF rfl, ⟨rfl, hσb, S'.grow k₁⟩, ch₁, sub⟩
  | true =>
    refine wpAny_mono (hT rfl A _ s₀ X₀ σb s₁ rm hσb (S'.grow k₁)) (fun fl s₂ hh => ?_) fun _ _ e => e
    obtain ⟨o, σc, p, hi, ch₂, sub₂⟩ := hh
    have ch₃ := chg_trans ch₁ sub ch₂
    have sub₃ := sub_trans sub ch₁ sub₂
    cases o with
    | next ρ₂ σ₂ =>
      obtain ⟨rfl, h1, S₂⟩ := hi
      obtain ⟨m, hm, hI'⟩ := p
      exact ⟨m, hm, ρ₂, σ₂, σc, hI', h1, S₂, ch₃, sub₃⟩
    | cont ρ₂ σ₂ =>
      obtain ⟨rfl, h1, S₂⟩ := hi
      obtain ⟨m, hm, hI'⟩ := p
      exact ⟨m, hm, ρ₂, σ₂, σc, hI', h1, S₂, ch₃, sub₃⟩
    | brk ρ₂ σ₂ =>
      obtain ⟨rfl, h1, S₂⟩ := hi
      exact ⟨.next ρ₂ σ₂, σc, p, ⟨rfl, h1, S₂⟩, ch₃, sub₃⟩
    | ret v =>
      obtain ⟨val, rfl, r⟩ := hi
      exact ⟨.ret v, σc, p, ⟨val, rfl, r⟩, ch₃, sub₃⟩

theorem own_split {σa : Owned} {σ1 σ2 : List (Str × Bool × List V)} {x : Str} {fl : Bool} {xs : List V} (h : own σa = σ1 ++ (x, fl, xs) :: σ2) :
    ∃ τ1 a τ2, σa = τ1 ++ (x, a, fl, xs) :: τ2 ∧ own τ1 = σ1 ∧ own τ2 = σ2 := by
  obtain ⟨τ1, τ', rfl, h1, h2⟩ := List.map_eq_append_iff.mp h
  obtain ⟨⟨y, a, fl', ys⟩, τ2, rfl, he, h2⟩ := List.map_eq_cons_iff.mp h2
  cases he
  exact ⟨τ1, a, τ2, rfl, h1, by rw [List.map_cons] at h2; exact (List.cons.inj h2).2⟩
theorem own_join {τ1 τ2 : Owned} {x : Str} {a : Addr} {fl : Bool} {ys : List V} : own (τ1 ++ (x, a, fl, ys) :: τ2) = own τ1 ++ (x, fl, ys) :: own τ2 := by
  unfold own; rw [List.map_append, List.map_cons]

theorem sub_write {τ1 τ2 : Owned} {x : Str} {a : Addr} {fl : Bool} {xs ys : List V} {h : Heap} : Sub (τ1 ++ (x, a, fl, ys) :: τ2) (τ1 ++ (x, a, fl, xs) :: τ2) h := fun t ht => .inl (by
  rcases List.mem_append.mp ht with q | q
  · exact ⟨t, List.mem_append_left _ q, rfl⟩
  · rcases List.mem_cons.mp q with rfl | q
    · exact ⟨(x, a, fl, xs), by simp, rfl⟩
    · exact ⟨t, List.mem_append_right _ (List.mem_cons_of_mem _ q), rfl⟩)

theorem Ex.append {x : Str} {xp ap cp pos : Pos} {e : Expr} {v : V} {xs : List V} (σ1 σ2 : List (Str × Bool × List V)) (hσ : σ = σ1 ++ (x, true, xs) :: σ2) (hv : EvE C k env ρ σ e v) (hlen : xs.length ≤ sizeLine)
    (h : P (.next ρ (σ1 ++ (x, true, xs ++ [v]) :: σ2))) (hd : (x == ("__debug__" : Str)) = false := by decide)
    (hfew : ((backTo cp (starEach [e] env)).all (fun x => !x.1) && (backToKw cp (keywordEach [] env)).all (fun x => x.1.isSome)
      && decide (([e] : List Expr).length + ([] : List Keyword).length + (if ([] : List Keyword).isEmpty then 0 else 1) < 30)) = true := by rfl)
    (hline : (ap.endLine == cp.line) = true := by rfl) (htrees : backTo cp (starEach [e] env) = [(false, eval e env)] := by rfl) :
    Ex C k env ρ σ (.Expr (.Call (.Attribute (.Name x xp) "append" ap) [e] [] cp) pos) P := by
  intro A E s₀ X₀ σa s rm hσa S
  obtain ⟨τ1, a, τ2, rfl, h1, h2⟩ := own_split (hσa.trans hσ)
  have f := S.fe
  obtain ⟨m, cm, SM⟩ := S
  obtain ⟨hh, _, items, ⟨hl, hpl⟩, hr⟩ := SM.owns (x, a, true, xs) (by simp)
  have hpl := hpl rfl
  refine wpAny_Expr (hi := by simp [interactive, f.ok.kind]) ?_
  refine wpAny_Call_append rfl hfew hline htrees (wpAny_Name (sees_load (SM.sees hh) f.ok rfl ?_) hd)
  obtain ⟨n, e0⟩ := id hpl
  refine ⟨a, items, rfl, ⟨_, n, e0, rfl, rfl, rfl⟩, ?_⟩
  refine hv A E _ _ s _ rm hσa f fun s₁ y k₁ r₁ => ?_
  have kk := kept_of k₁
  have hsz : items.size = xs.length := by rw [← hr.length]; simp
  refine wpAny_list_append_plain (hsz := by rw [hsz]; exact hlen) (hpl.at fun o e => kk _ o e) fun h' hp' hs' => ?_
  obtain ⟨SM', ch⟩ := (SM.grow k₁).write τ1 τ2 rfl hs' hp'.isList (fun _ => hp') (ys := xs ++ [v]) (by rw [Array.toList_push]; exact (hr.keeps kk).append (Reps.one r₁))
  exact ⟨_, _, h, ⟨rfl, by rw [own_join, h1, h2], m, cm, SM'⟩, chg_trans (Chg.of_keeps k₁) Sub.refl ch, sub_write⟩

theorem Ex.setitem {x : Str} {xp ip pos : Pos} {e ie : Expr} {v : V} {xs : List V} {i : Int} (σ1 σ2 : List (Str × Bool × List V)) (hσ : σ = σ1 ++ (x, false, xs) :: σ2) (hv : EvE C k env ρ σ e v) (hi : EvE C k env ρ σ ie (.int i))
    (h0 : 0 ≤ i) (hn : i.toNat < xs.length) (hlen : xs.length < 2 ^ 62)
    (h : P (.next ρ (σ1 ++ (x, false, xs.set i.toNat v) :: σ2))) (hd : (x == ("__debug__" : Str)) = false := by decide)
    (hs : swapsWith e (some (.Subscript (.Name x xp) ie ip)) pos.line env = pure false := by rfl) :
    Ex C k env ρ σ (.Assign [.Subscript (.Name x xp) ie ip] e pos) P := by
  intro A E s₀ X₀ σa s rm hσa S
  obtain ⟨τ1, a, τ2, rfl, h1, h2⟩ := own_split (hσa.trans hσ)
  have f := S.fe
  obtain ⟨m, cm, SM⟩ := S
  obtain ⟨hh, _, items, ⟨hl, _⟩, hr⟩ := SM.owns (x, a, false, xs) (by simp)
  refine wpAny_Assign_Subscript (hs := hs) (hv A E _ _ s _ rm hσa f fun s₁ y k₁ r₁ => ?_)
  have SM₁ := SM.grow k₁
  have f₁ := f.keeps (kept_of k₁)
  refine wpAny_Name (sees_load (SM₁.sees hh) f₁.ok rfl ?_) hd
  refine hi A E _ _ s₁ _ rm hσa f₁ fun s₂ iv k₂ r₂ => ?_
  obtain ⟨t, rfl⟩ := r₂
  have kk := kept_of (keeps_trans k₁ k₂)
  have hsz : items.size = xs.length := by rw [← hr.length]; simp
  refine wpAny_setItem_list (IsList.kept kk hl) h0 (by omega) (by rw [hsz]; omega) fun h' hl' hs' => ?_
  obtain ⟨SM', ch⟩ := (SM₁.grow k₂).write τ1 τ2 rfl hs' hl' (fun q => by cases q) (ys := xs.set i.toNat v) (by rw [Array.toList_setIfInBounds]; exact (hr.keeps kk).set _ (r₁.keeps (kept_of k₂)))
  exact ⟨_, _, h, ⟨rfl, by rw [own_join, h1, h2], m, cm, SM'⟩, chg_trans (Chg.of_keeps (keeps_trans k₁ k₂)) Sub.refl ch, sub_write⟩

theorem Exs.freeze {st : List Stmt} {x : Str} {fl : Bool} {xs : List V} (σ1 σ2 : List (Str × Bool × List V)) (hσ : σ = σ1 ++ (x, fl, xs) :: σ2) (h : Exs C k env ((x, .list xs) :: ρ) (σ1 ++ σ2) st P) : Exs C k env ρ σ st P := by
  intro A E s₀ X₀ σa s rm hσa S
  generalize hfl : fl = fl₀ at *
  obtain ⟨τ1, a, τ2, rfl, h1, h2⟩ := own_split (hσa.trans hσ)
  refine wpAny_mono (h A E s₀ X₀ (τ1 ++ τ2) s rm (by unfold own at *; rw [List.map_append, h1, h2]) S.freeze) (fun fl s' hh => ?_) fun _ _ e => e
  obtain ⟨o, σb, p, hi, ch, sub⟩ := hh
  have subt : ∀ t, t ∈ τ1 ++ τ2 → t ∈ τ1 ++ (x, a, fl₀, xs) :: τ2 := fun t ht => by
    rcases List.mem_append.mp ht with q | q
    · exact List.mem_append_left _ q
    · exact List.mem_append_right _ (List.mem_cons_of_mem _ q)
  refine ⟨o, σb, p, hi, ⟨fun b o nb e => ch.same b o (fun q => nb ?_) e, ch.dom⟩, fun t ht => ?_⟩
  · rcases q with q | q | q | ⟨t, ht, rfl⟩
    · exact q.elim
    · exact .inr (.inl q)
    · exact .inr (.inr (.inl q))
    · exact .inr (.inr (.inr ⟨t, subt t ht, rfl⟩))
  · rcases sub t ht with ⟨u, hu, q⟩ | q
    · exact .inl ⟨u, subt u hu, q⟩
    · exact .inr q
end
end Mine

end

section
open PySem PySem.W PyProof.Rows
namespace Mine

def nameOfE : Expr → Option Str
  | .Name x _ => some x
  | _ => none
def namesOf : List Expr → Option (List Str)
  | [] => some []
  | e :: r => match nameOfE e, namesOf r with
    | some x, some xs => some (x :: xs)
    | _, _ => none

/-- the tree stores its value under the name -/
def StoresTo (env : Env) (x : Str) (f : Value → Sem Unit) : Prop :=
  ∀ (M : Model) (A : Around) (E : Value → Shared → Prop) (v : Value) (s : Shared) (Q : Unit → Shared → Prop), wpAny M A (storeName env x v) Q E s → wpAny M A (f v) Q E s
def AllStore (env : Env) : List Str → List (Value → Sem Unit) → Prop
  | [], fs => fs = []
  | x :: xs, fs => ∃ f r, fs = f :: r ∧ StoresTo env x f ∧ AllStore env xs r

theorem nameOfE_some {e : Expr} {x : Str} (h : nameOfE e = some x) : ∃ p, e = .Name x p := by
  unfold nameOfE at h
  split at h
  · cases h; exact ⟨_, rfl⟩
  · cases h
theorem namesOf_assign {env : Env} : ∀ {es : List Expr} {xs : List Str}, namesOf es = some xs → AllStore env xs ((assignEach es env).map (·.2)) ∧ (assignEach es env).length = xs.length ∧ ((assignEach es env).findIdx? (·.1) = none)
  | [], xs, h => by cases h; exact ⟨rfl, rfl, rfl⟩
  | e :: r, xs, h => by
    unfold namesOf at h
    cases he : nameOfE e with
    | none => rw [he] at h; cases h
    | some x =>
      cases hr : namesOf r with
      | none => rw [he, hr] at h; cases h
      | some ys =>
        rw [he, hr] at h; cases h
        obtain ⟨p, rfl⟩ := nameOfE_some he
        obtain ⟨h1, h2, h3⟩ := namesOf_assign (env := env) hr
        have e : assignEach (.Name x p :: r) env = (false, assign (.Name x p) env) :: assignEach r env := rfl
        rw [e]
        refine ⟨⟨_, _, rfl, fun M A E v s Q hq => wpAny_assign_Name hq, h1⟩, by rw [List.length_cons, List.length_cons, h2], ?_⟩
        rw [List.findIdx?_cons]
        simp [h3]

theorem allStore_bind {env : Env} : ∀ (xs : List Str), AllStore env xs (xs.map fun n => bindName env n)
  | [] => rfl
  | x :: xs => ⟨_, _, rfl, fun M A E v s Q hq => wpAny_bindName hq, allStore_bind xs⟩

section
variable {C : Cx} {env : Env} {s₀ : Shared} {X₀ : Addr → Prop} {σa : Owned}

theorem St.stores {M : Model} {A : Around} {E : Value → Shared → Prop} : ∀ (xs : List Str) (fs : List (Value → Sem Unit)) (vs : List V) (us : List Value) (ρ : List (Str × V)) (s : Shared) (Q : Unit → Shared → Prop), AllStore env xs fs → vs.length = xs.length →
    St C env s₀ X₀ ρ σa s → Reps (XX env X₀ σa) s.heap vs us → (∀ x ∈ xs, Kind env x) → (∀ x ∈ xs, ∀ t ∈ σa, t.1 ≠ x) →
    (∀ s', St C env s₀ X₀ ((xs.zip vs).reverse ++ ρ) σa s' → Chg (FX env) s.heap s'.heap → Q () s') → wpAny M A (assignInOrder fs us) Q E s
  | [], fs, vs, us, ρ, s, Q, hf, hlen, S, r, _, _, h => by
    cases hf
    exact assignInOrder_nil (h s (by simpa using S) Chg.refl)
  | x :: xs, fs, vs, us, ρ, s, Q, hf, hlen, S, r, hk, ho, h => by
    obtain ⟨f, fr, rfl, hs, hr⟩ := hf
    cases vs with
    | nil => simp at hlen
    | cons v vs =>
      obtain ⟨u, ur, rfl, r1, r2⟩ := r
      obtain ⟨m, cm, SM⟩ := S
      refine assignInOrder_cons (hs _ _ _ _ _ _ (SM.store r1 (hk x List.mem_cons_self) (ho x List.mem_cons_self) fun s' S' ch => ?_))
      refine St.stores xs fr vs ur ((x, v) :: ρ) s' _ hr (by simpa using hlen) S' (r2.chg ch.fr) (fun y hy => hk y (List.mem_cons_of_mem _ hy)) (fun y hy => ho y (List.mem_cons_of_mem _ hy)) fun s'' S'' ch' => ?_
      exact h s'' (by simpa using S'') ⟨fun b o nb e => ch'.same b o nb (ch.same b o nb e), fun b o e => let ⟨o', e'⟩ := ch.dom b o e; ch'.dom b o' e'⟩
end

theorem lookup_mem {x : Str} {v : V} : ∀ {l : List (Str × V)}, l.lookup x = some v → (x, v) ∈ l
  | [], h => by cases h
  | (y, w) :: l, h => by
    rw [List.lookup_cons] at h
    by_cases hy : (x == y) = true
    · rw [hy] at h; cases h; rw [eq_of_beq hy]; exact List.mem_cons_self
    · have hy' : (x == y) = false := by simpa using hy
      rw [hy'] at h; exact List.mem_cons_of_mem _ (lookup_mem h)
theorem lookup_of_mem {x : Str} {v : V} : ∀ {l : List (Str × V)}, (l.map (·.1)).Nodup → (x, v) ∈ l → l.lookup x = some v
  | [], _, h => by cases h
  | (y, w) :: l, hn, h => by
    obtain ⟨h1, h2⟩ := List.nodup_cons.mp hn
    rw [List.lookup_cons]
    rcases List.mem_cons.mp h with e | h
    · cases e; rw [beq_self_eq_true]
    · have : x ≠ y := fun q => h1 (q ▸ List.mem_map.mpr ⟨(x, v), h, rfl⟩)
      rw [beq_eq_false_iff_ne.mpr this]
      exact lookup_of_mem h2 h
theorem lookup_rev {l : List (Str × V)} (hn : (l.map (·.1)).Nodup) (x : Str) : l.reverse.lookup x = l.lookup x := by
  have hn' : (l.reverse.map (·.1)).Nodup := by rw [List.map_reverse]; exact (List.reverse_perm _).nodup_iff.mpr hn
  cases h : l.lookup x with
  | some v => exact lookup_of_mem hn' (List.mem_reverse.mpr (lookup_mem h))
  | none =>
    cases h' : l.reverse.lookup x with
    | none => rfl
    | some v => rw [lookup_of_mem hn (List.mem_reverse.mp (lookup_mem h'))] at h; cases h
theorem lookup_rev_app {l ρ : List (Str × V)} (hn : (l.map (·.1)).Nodup) (x : Str) (v : V) (h : (l ++ ρ).lookup x = some v) : (l.reverse ++ ρ).lookup x = some v := by
  rw [List.lookup_append] at h ⊢
  rw [lookup_rev hn]; exact h
theorem zip_names : ∀ {xs : List Str} {vs : List V}, vs.length = xs.length → ((xs.zip vs).map (·.1)) = xs
  | [], vs, _ => by simp
  | x :: xs, [], h => by simp at h
  | x :: xs, v :: vs, h => by simp only [List.zip_cons_cons, List.map_cons]; rw [zip_names (by simpa using h)]
theorem zip_rev : ∀ {xs : List Str} {vs : List V}, vs.length = xs.length → (xs.reverse.zip vs.reverse).reverse = xs.zip vs
  | [], vs, _ => by simp
  | x :: xs, [], h => by simp at h
  | x :: xs, v :: vs, h => by
    rw [List.reverse_cons, List.reverse_cons, List.zip_append (by simp; simpa using h.symm), List.reverse_append, zip_rev (by simpa using h)]; rfl

theorem Reps.reverse {X : Addr → Prop} {h : Heap} : ∀ {xs : List V} {us : List Value}, Reps X h xs us → Reps X h xs.reverse us.reverse
  | [], _, r => by cases r; rfl
  | x :: xs, _, r => by
    obtain ⟨v, t, rfl, r1, r2⟩ := r
    rw [List.reverse_cons, List.reverse_cons]
    exact (Reps.reverse r2).append (Reps.one r1)
theorem kept_ext {h h' : Heap} (e : Heap.ExtBut h.objs.size h h') : Kept h h' := fun b o x => e b o (Nat.ne_of_lt (Heap.lt_size x)) x

section
variable {C : Cx} {k : Nat} {env : Env} {ρ : List (Str × V)} {σ : List (Str × Bool × List V)} {P : Out → Prop}

theorem Ex.assign_tup {elts : List Expr} {kk : Nat} {tp pos : Pos} {e : Expr} {xs : List Str} {vs : List V} (hn : namesOf elts = some xs) (hv : EvE C k env ρ σ e (.tuple vs)) (h : P (.next ((xs.zip vs) ++ ρ) σ))
    (hlen : vs.length = xs.length := by rfl) (hnd : xs.Nodup := by decide)
    (hk : ∀ x ∈ xs, Kind env x := by intro x hx; simp only [List.mem_cons, List.not_mem_nil, or_false] at hx; (repeat' (rcases hx with rfl | hx)) <;> first | exact .inl rfl | exact .inr ⟨rfl, rfl⟩ | (subst hx; first | exact .inl rfl | exact .inr ⟨rfl, rfl⟩))
    (ho : xs.all (fun x => σ.all (fun p => p.1 != x)) = true := by rfl)
    (hs : swapsWithSole [.Tuple elts kk tp] e pos.line env = pure false := by rfl)
    (hw : (swappedStores [.Tuple elts kk tp] e env = pure none) ∨ (swappedStores [.Tuple elts kk tp] e env = pure (some xs)) := by first | exact .inl rfl | exact .inr rfl) :
    Ex C k env ρ σ (.Assign [.Tuple elts kk tp] e pos) P := by
  intro A E s₀ X₀ σa s rm hσa S
  subst hσa
  have ho' : ∀ x ∈ xs, ∀ t ∈ σa, t.1 ≠ x := fun x hx => own_ne (List.all_eq_true.mp ho x hx)
  obtain ⟨f1, f2, f3⟩ := namesOf_assign (env := env) hn
  rcases hw with hw | hw
  · refine Assign_Tuple (hs := hs) (hw := hw) (hv A E _ σa s _ rm rfl S.fe fun s₁ val k₁ r₁ => ?_)
    obtain ⟨a, items, rfl, _, hT, hr⟩ := r₁
    have hsz : items.size = vs.length := by rw [← hr.length]; simp
    refine wpAny_assign_Tuple rm.handled hT (by rw [f2, hsz, hlen]) f3 fun h' he => ?_
    have k₂ : Keeps s₁ { s₁ with heap := h' } := keeps_heap s₁ h' (kept_ext he)
    refine St.stores xs _ vs _ ρ _ _ f1 hlen ((S.grow k₁).grow k₂) (hr.keeps (kept_of k₂)) hk ho' fun s' S' ch => ?_
    exact ⟨_, σa, h, ⟨rfl, rfl, S'.mono fun x v hx => lookup_rev_app (by rw [zip_names hlen]; exact hnd) x v hx⟩, chg_trans (Chg.of_keeps (keeps_trans k₁ k₂)) Sub.refl ch.fr, Sub.refl⟩
  · refine Assign_Tuple_swapped (hs := hs) (hw := hw) (hv A E _ σa s _ rm rfl S.fe fun s₁ val k₁ r₁ => ?_)
    obtain ⟨a, items, rfl, _, hT, hr⟩ := r₁
    have hsz : items.size = vs.length := by rw [← hr.length]; simp
    rw [← hlen, ← hsz]
    refine wpAny_unpackItems_tuple rm.handled hT fun h' he => ?_
    have k₂ : Keeps s₁ { s₁ with heap := h' } := keeps_heap s₁ h' (kept_ext he)
    refine St.stores xs.reverse _ vs.reverse _ ρ _ _ (allStore_bind _) (by simp [hlen]) ((S.grow k₁).grow k₂) (hr.keeps (kept_of k₂)).reverse (fun x hx => hk x (List.mem_reverse.mp hx)) (fun x hx => ho' x (List.mem_reverse.mp hx)) fun s' S' ch => ?_
    rw [zip_rev hlen] at S'
    exact ⟨_, σa, h, ⟨rfl, rfl, S'⟩, chg_trans (Chg.of_keeps (keeps_trans k₁ k₂)) Sub.refl ch.fr, Sub.refl⟩

/-- an expression that gives a new list -/
def EvF (C : Cx) (k : Nat) (env : Env) (ρ : List (Str × V)) (σ : List (Str × Bool × List V)) (e : Expr) (xs : List V) : Prop :=
  ∀ (A : Around) (E : Value → Shared → Prop) (X : Addr → Prop) (σa : Owned) (s : Shared) (Q : Value → Shared → Prop), Room A k → own σa = σ → Fe C env X ρ σa s.heap →
    (∀ s' a items, Keeps s s' → s.heap.get? a = none → s'.heap.PlainList a items → Reps (fun b => X b ∨ b = a) s'.heap xs items.toList → Q (.ref a) s') → wpAny (model C.prog C.w) A (eval e env) Q E s

theorem EvF.list {es : List Expr} {pos : Pos} {vs : List V} (hv : EvEs C k env ρ σ es vs) (hsz : vs.length ≤ sizeLine := by size_fits) : EvF C k env ρ σ (.List es pos) vs := by
  intro A E X σa s Q rm hσ f h
  refine wpAny_List (hv pos A E X σa s _ rm hσ f fun s₁ vals k₁ r₁ => ⟨by rw [r₁.length]; exact hsz, ?_⟩)
  have kp : Kept s₁.heap (s₁.heap.push { cls := .type "list", data := .seq vals.toArray }) := fun b o e => Heap.get?_push_of_some _ e
  have hn : s.heap.get? s₁.heap.objs.size = none := by
    cases q : s.heap.get? s₁.heap.objs.size with
    | none => rfl
    | some o => exact absurd (Heap.lt_size (kept_of k₁ _ _ q)) (Nat.lt_irrefl _)
  exact h _ _ vals.toArray (keeps_trans k₁ (keeps_heap s₁ _ kp)) hn ⟨_, Heap.get?_push_size _ rfl⟩ (by simpa using r₁.mono (fun b o _ _ e => kp b o e) fun b o nb _ e q => q.elim nb fun q => Nat.lt_irrefl _ (q ▸ Heap.lt_size e))

/-- [x] * n as a new list -/
theorem EvF.rep {l r : Expr} {pos : Pos} {x : V} {n : Int} (hl : EvE C k env ρ σ l (.list [x])) (hr : EvE C k env ρ σ r (.int n)) (h1 : n ≤ 1000000) (hlo : -1000000 ≤ n) : EvF C k env ρ σ (.BinOp l .Mult r pos) (List.replicate n.toNat x) := by
  intro A E X σa s Q rm hσ f h
  refine wpAny_BinOp (hl A E X σa s _ rm hσ f fun s₁ lv k₁ r₁ => hr A E X σa s₁ _ rm hσ (f.keeps (kept_of k₁)) fun s₂ nv k₂ r₂ => ?_)
  obtain ⟨u, rfl⟩ := r₂
  obtain ⟨l, us, rfl, hX, hL, rl⟩ := r₁.keeps (kept_of k₂)
  obtain ⟨⟨cls, d, data, sl⟩, ho, hc, m, hd⟩ := hL
  simp only at hc hd
  subst hc hd
  obtain ⟨v, r, hus, rv, hr⟩ := rl
  cases hr
  have e1 : us.size = 1 := by rw [← Array.length_toList, hus]; rfl
  have hmul : us.size * n.toNat = n.toNat := by rw [e1, Nat.one_mul]
  refine wpAny_binaryOp_repeat_ref (T := "list") (U := "int") (by decide) ⟨_, ho, rfl⟩ (fun s' => typeIs_int s' n u) noFill_list_mul F.fills_int_mul F.slot_int_rmul repeat_list F.slot_int_index.lookup
    (call_meets F.slot_int_rmul (typeIs_int s₂ n u) F.entry_int_rmul (F.args_int_rmul_2 _ _) (lm_int_rmul_list_any n u l us m d sl)
      ⟨ho, rfl, ⟨_, ho, rfl⟩, call_meets F.slot_list_mul ⟨_, ho, rfl⟩ F.entry_list_mul (F.args_list_mul_2 _ _)
        (lm_list_mul_any l us m d sl n u (by simp [Builtin.List.listFitsIndex]; omega) (by rw [hmul]; omega) (by rw [hmul]; simp [Builtin.List.listTooLong, sizeLine]; omega))
        ⟨ho, ?_⟩⟩)
  rw [listMul_foldl_if, hus, flatten_one]
  have kp : Kept s₂.heap (s₂.heap.push { cls := .type "list", data := .seq (List.replicate n.toNat v).toArray }) := fun b o e => Heap.get?_push_of_some _ e
  have kk := keeps_trans k₁ k₂
  have hn : s.heap.get? s₂.heap.objs.size = none := by
    cases q : s.heap.get? s₂.heap.objs.size with
    | none => rfl
    | some o => exact absurd (Heap.lt_size (kept_of kk _ _ q)) (Nat.lt_irrefl _)
  exact h _ _ (List.replicate n.toNat v).toArray (keeps_trans kk (keeps_heap s₂ _ kp)) hn ⟨_, Heap.get?_push_size _ rfl⟩ (Reps.replicate (rv.mono (fun b o _ _ e => kp b o e) fun b o nb _ e q => q.elim nb fun q => Nat.lt_irrefl _ (q ▸ Heap.lt_size e)) _)

theorem lookup_cons_ne {x y : Str} {v w : V} {ρ : List (Str × V)} (h : ρ.lookup y = some w) (hx : ρ.lookup x = none) : List.lookup y ((x, v) :: ρ) = some w := by
  rw [List.lookup_cons]
  by_cases hy : (y == x) = true
  · rw [eq_of_beq hy, hx] at h; cases h
  · have hy' : (y == x) = false := by simpa using hy
    rw [hy']; exact h

/-- a new list of the frame's own -/
theorem Ex.own {x : Str} {px pos : Pos} {e : Expr} {xs : List V} (fl : Bool) (hv : EvF C k env ρ σ e xs) (h : P (.next ρ ((x, fl, xs) :: σ)))
    (hnx : ρ.lookup x = none := by rfl) (hx : Kind env x := by first | exact .inl rfl | exact .inr ⟨rfl, rfl⟩) (ho : σ.all (fun p => p.1 != x) = true := by rfl) (hs : swapsWith e (some (.Name x px)) pos.line env = pure false := by rfl) :
    Ex C k env ρ σ (.Assign [.Name x px] e pos) P := by
  intro A E s₀ X₀ σa s rm hσ S
  subst hσ
  refine wpAny_Assign_Name (hs := hs) (hv A E _ σa s _ rm rfl S.fe fun s₁ a items k₁ hn hp r₁ => ?_)
  obtain ⟨m, cm, SM⟩ := S
  have hX₀ : ¬ X₀ a := fun q => by obtain ⟨o, e⟩ := SM.x0 a q; rw [hn] at e; cases e
  have h0 : s₀.heap.get? a = none := by
    cases q : s₀.heap.get? a with
    | none => rfl
    | some o => have := kept_of SM.keeps _ _ q; rw [hn] at this; cases this
  have W := SM.widen k₁ (fun b => b = a) (fun b hb => hb ▸ hn) (fun b hb => by obtain ⟨n, e⟩ := hp; exact ⟨_, hb ▸ e⟩)
  have hr : Reps (XX env (fun b => X₀ b ∨ b = a) σa) s₁.heap xs items.toList := r₁.weak fun b q => by
    rcases q with (q | q) | q
    · exact .inl (.inl q)
    · exact .inr q
    · exact .inl (.inr q)
  have hfa : ¬ FX env a := fun q => by
    have : ∃ o, s.heap.get? a = some o := SM.dom a (q.elim (fun q => .inr (.inl q)) fun q => .inr (.inr (.inl q)))
    obtain ⟨o, e⟩ := this; rw [hn] at e; cases e
  refine W.store (v := .val (.ref a)) rfl hx (own_ne ho) fun s₂ S₂ ch => ?_
  obtain ⟨m₂, cm₂, S₂⟩ := S₂
  obtain ⟨val, hh, e⟩ := S₂.vars x (.val (.ref a)) (by rw [List.lookup_cons, beq_self_eq_true])
  cases (show val = .ref a from e)
  have S₃ := S₂.adopt (fl := fl) hh h0 hX₀ (hp.at fun o e => ch.same a o hfa e) (hr.chg ch.fr) (own_ne ho)
  refine ⟨_, (x, a, fl, xs) :: σa, h, ⟨rfl, rfl, St.mono ⟨m₂, cm₂, S₃⟩ fun y w hy => lookup_cons_ne hy hnx⟩, chg_trans (Chg.of_keeps k₁) Sub.refl ch.fr, fun t ht => ?_⟩
  rcases List.mem_cons.mp ht with rfl | ht
  · exact .inr hn
  · exact .inl ⟨t, ht, rfl⟩
end
end Mine

end

section
open PySem PySem.W PyProof.Rows
namespace Mine
section
variable {C : Cx} {k : Nat} {env : Env} {ρ : List (Str × V)} {σ : List (Str × Bool × List V)} {P : Out → Prop}

theorem lookup_app_ne {x y : Str} {v w : V} {l ρ : List (Str × V)} (h : (l ++ ρ).lookup y = some w) (hx : (l ++ ρ).lookup x = none) : ((x, v) :: (l ++ ρ)).lookup y = some w := lookup_cons_ne h hx

theorem lookup_zip_none {x : Str} {xs : List Str} {vs : List V} {ρ : List (Str × V)} (h : x ∉ xs) (hρ : ρ.lookup x = none) : (xs.zip vs ++ ρ).lookup x = none := by
  rw [List.lookup_append, hρ, Option.or_none]
  cases q : (xs.zip vs).lookup x with
  | none => rfl
  | some v => exact absurd (List.of_mem_zip (lookup_mem q)).1 h

/-- names at once, the first one's a new list of the frame's own -/
theorem Ex.own_tup {x : Str} {px : Pos} {elts es : List Expr} {e : Expr} {kk kk' : Nat} {tp vp pos : Pos} {xs : List Str} {ys vs : List V} (fl : Bool) (hn : namesOf (.Name x px :: elts) = some (x :: xs))
    (hv : EvF C k env ρ σ e ys) (hvs : EvEs C k env ρ σ es vs) (h : P (.next ((xs.zip vs) ++ ρ) ((x, fl, ys) :: σ)))
    (hlen : vs.length = xs.length := by rfl) (hnd : (x :: xs).Nodup := by decide) (hnx : ρ.lookup x = none := by rfl) (hsz : vs.length ≤ 1000 := by exact Nat.le_of_ble_eq_true rfl)
    (hk : ∀ y ∈ x :: xs, Kind env y := by intro x hx; simp only [List.mem_cons, List.not_mem_nil, or_false] at hx; (repeat' (rcases hx with rfl | hx)) <;> first | exact .inl rfl | exact .inr ⟨rfl, rfl⟩ | (subst hx; first | exact .inl rfl | exact .inr ⟨rfl, rfl⟩))
    (ho : (x :: xs).all (fun x => σ.all (fun p => p.1 != x)) = true := by rfl)
    (he : starEach (e :: es) env = (false, eval e env) :: starEach es env := by rfl)
    (hs : swapsWithSole [.Tuple (.Name x px :: elts) kk tp] (.Tuple (e :: es) kk' vp) pos.line env = pure false := by rfl)
    (hw : (swappedStores [.Tuple (.Name x px :: elts) kk tp] (.Tuple (e :: es) kk' vp) env = pure none) ∨ (swappedStores [.Tuple (.Name x px :: elts) kk tp] (.Tuple (e :: es) kk' vp) env = pure (some (x :: xs))) := by first | exact .inl rfl | exact .inr rfl) :
    Ex C k env ρ σ (.Assign [.Tuple (.Name x px :: elts) kk tp] (.Tuple (e :: es) kk' vp) pos) P := by
  intro A E s₀ X₀ σa s rm hσa S
  subst hσa
  have ho' : ∀ y ∈ x :: xs, ∀ t ∈ σa, t.1 ≠ y := fun y hy => own_ne (List.all_eq_true.mp ho y hy)
  obtain ⟨f1, f2, f3⟩ := namesOf_assign (env := env) hn
  -- the value
  have value : ∀ (Q : Value → Shared → Prop), (∀ a items s₂ T us, Keeps s s₂ → s.heap.get? a = none → ¬ X₀ a → ¬ FX env a → s₀.heap.get? a = none → s₂.heap.PlainList a items → St C env s₀ (fun b => X₀ b ∨ b = a) ρ σa s₂ →
      Reps (XX env (fun b => X₀ b ∨ b = a) σa) s₂.heap ys items.toList → s₂.heap.IsTuple T us → Reps (XX env (fun b => X₀ b ∨ b = a) σa) s₂.heap (.val (.ref a) :: vs) us.toList → Q (.ref T) s₂) →
      wpAny (model C.prog C.w) A (eval (.Tuple (e :: es) kk' vp) env) Q E s := by
    intro Q hq
    refine wpAny_Tuple (wpAny_items_cons (he := he) (hv A E _ σa s _ rm rfl S.fe fun s₁ a items k₁ hna hp r₁ => ?_))
    obtain ⟨m, cm, SM⟩ := S
    have hX₀ : ¬ X₀ a := fun q => by obtain ⟨o, e⟩ := SM.x0 a q; rw [hna] at e; cases e
    have h0 : s₀.heap.get? a = none := by
      cases q : s₀.heap.get? a with
      | none => rfl
      | some o => have := kept_of SM.keeps _ _ q; rw [hna] at this; cases this
    have hfa : ¬ FX env a := fun q => by
      have : ∃ o, s.heap.get? a = some o := SM.dom a (q.elim (fun q => .inr (.inl q)) fun q => .inr (.inr (.inl q)))
      obtain ⟨o, e⟩ := this; rw [hna] at e; cases e
    have W := SM.widen k₁ (fun b => b = a) (fun b hb => hb ▸ hna) (fun b hb => by obtain ⟨n, e⟩ := hp; exact ⟨_, hb ▸ e⟩)
    have hr : Reps (XX env (fun b => X₀ b ∨ b = a) σa) s₁.heap ys items.toList := r₁.weak fun b q => by
      rcases q with (q | q) | q
      · exact .inl (.inl q)
      · exact .inr q
      · exact .inl (.inr q)
    refine hvs _ A E _ σa s₁ _ rm rfl W.fe fun s₂ vals k₂ r₂ => ⟨by rw [List.length_cons, r₂.length, sizeLine_eq]; omega, ?_⟩
    have kp : Kept s₂.heap (s₂.heap.push { cls := .type "tuple", data := .seq (Value.ref a :: vals).toArray }) := fun b o e => Heap.get?_push_of_some _ e
    have k₃ := keeps_heap s₂ _ kp
    exact hq a items _ _ (Value.ref a :: vals).toArray (keeps_trans (keeps_trans k₁ k₂) k₃) hna hX₀ hfa h0 (hp.at fun o e => kp _ _ (kept_of k₂ _ _ e)) ⟨m, cm, (W.grow k₂).grow k₃⟩ ((hr.keeps (kept_of k₂)).keeps kp)
      ⟨_, Heap.get?_push_size _ rfl, rfl, _, rfl⟩ ⟨_, _, rfl, rfl, r₂.keeps kp⟩
  -- its end
  have done : ∀ (a : Addr) (items : Array Value) (s₂ s₃ : Shared), Keeps s s₂ → s.heap.get? a = none → ¬ X₀ a → ¬ FX env a → s₀.heap.get? a = none → s₂.heap.PlainList a items →
      Reps (XX env (fun b => X₀ b ∨ b = a) σa) s₂.heap ys items.toList → St C env s₀ (fun b => X₀ b ∨ b = a) (((x :: xs).zip (.val (.ref a) :: vs)) ++ ρ) σa s₃ → Chg (FX env) s₂.heap s₃.heap → Ends C env s₀ X₀ σa s P .next s₃ := by
    intro a items s₂ s₃ k₂ hna hX₀ hfa h0 hp hr S₃ ch
    obtain ⟨m₃, cm₃, S₃⟩ := S₃
    obtain ⟨val, hh, e⟩ := S₃.vars x (.val (.ref a)) (by rw [List.zip_cons_cons, List.cons_append, List.lookup_cons, beq_self_eq_true])
    cases (show val = .ref a from e)
    have S₄ := S₃.adopt (fl := fl) hh h0 hX₀ (hp.at fun o e => ch.same a o hfa e) (hr.chg ch.fr) (ho' x List.mem_cons_self)
    refine ⟨_, (x, a, fl, ys) :: σa, h, ⟨rfl, rfl, St.mono ⟨m₃, cm₃, S₄⟩ fun y w hy => ?_⟩, chg_trans (Chg.of_keeps k₂) Sub.refl ch.fr, fun t ht => ?_⟩
    · rw [List.zip_cons_cons, List.cons_append]
      exact lookup_cons_ne hy (lookup_zip_none (List.nodup_cons.mp hnd).1 hnx)
    · rcases List.mem_cons.mp ht with rfl | ht
      · exact .inr hna
      · exact .inl ⟨t, ht, rfl⟩
  rcases hw with hw | hw
  · refine Assign_Tuple (hs := hs) (hw := hw) (value _ fun a items s₂ T us k₂ hna hX₀ hfa h0 hp S₂ hr hT ru => ?_)
    have hsz' : us.size = (x :: xs).length := by rw [← Array.length_toList, ru.length, List.length_cons, List.length_cons, hlen]
    refine wpAny_assign_Tuple rm.handled hT (by rw [f2, hsz']) f3 fun h' he => ?_
    have k₃ : Keeps s₂ { s₂ with heap := h' } := keeps_heap s₂ h' (kept_ext he)
    refine St.stores (x :: xs) _ (.val (.ref a) :: vs) _ ρ _ _ f1 (by simp [hlen]) (S₂.grow k₃) (ru.keeps (kept_of k₃)) hk ho' fun s' S' ch => ?_
    exact done a items _ _ (keeps_trans k₂ k₃) hna hX₀ hfa h0 (hp.at fun o e => kept_of k₃ _ _ e) (hr.keeps (kept_of k₃)) (S'.mono fun y v hy => lookup_rev_app (by rw [zip_names (by simp [hlen])]; exact hnd) y v hy) ch
  · refine Assign_Tuple_swapped (hs := hs) (hw := hw) (value _ fun a items s₂ T us k₂ hna hX₀ hfa h0 hp S₂ hr hT ru => ?_)
    have hsz' : us.size = (x :: xs).length := by rw [← Array.length_toList, ru.length, List.length_cons, List.length_cons, hlen]
    rw [← hsz']
    refine wpAny_unpackItems_tuple rm.handled hT fun h' he => ?_
    have k₃ : Keeps s₂ { s₂ with heap := h' } := keeps_heap s₂ h' (kept_ext he)
    refine St.stores (x :: xs).reverse _ (V.val (.ref a) :: vs).reverse _ ρ _ _ (allStore_bind _) (by simp [hlen]) (S₂.grow k₃) (ru.keeps (kept_of k₃)).reverse (fun y hy => hk y (List.mem_reverse.mp hy)) (fun y hy => ho' y (List.mem_reverse.mp hy)) fun s' S' ch => ?_
    rw [zip_rev (by simp [hlen])] at S'
    exact done a items _ _ (keeps_trans k₂ k₃) hna hX₀ hfa h0 (hp.at fun o e => kept_of k₃ _ _ e) (hr.keeps (kept_of k₃)) S' ch
end
end Mine

end

section
open PySem PySem.W PyProof.Rows
namespace Mine

theorem bindL_other {kd : Str → Option NameKind} : ∀ {binds : List (Str × Value)} {m : Str → Option Value} {x : Str}, x ∉ binds.map (·.1) → bindL kd binds m x = m x
  | [], _, _, _ => rfl
  | (n, v) :: r, m, x, h => by
    have h1 : x ≠ n := fun q => h (by rw [q]; exact List.mem_cons_self)
    have h2 : x ∉ r.map (·.1) := fun q => h (List.mem_cons_of_mem _ q)
    unfold bindL
    rw [bindL_other h2]
    split
    · exact if_neg h1
    · rfl
theorem bindC_other {kd : Str → Option NameKind} : ∀ {binds : List (Str × Value)} {m : Str → Option Value} {x : Str}, x ∉ binds.map (·.1) → bindC kd binds m x = m x
  | [], _, _, _ => rfl
  | (n, v) :: r, m, x, h => by
    have h1 : x ≠ n := fun q => h (by rw [q]; exact List.mem_cons_self)
    have h2 : x ∉ r.map (·.1) := fun q => h (List.mem_cons_of_mem _ q)
    unfold bindC
    rw [bindC_other h2]
    split
    · rfl
    · exact if_neg h1
theorem bind_has {kd : Str → Option NameKind} : ∀ {binds : List (Str × Value)} {m cm : Str → Option Value} {x : Str} {v : Value}, (binds.map (·.1)).Nodup → (x, v) ∈ binds →
    (kd x = some .local → bindL kd binds m x = some v) ∧ (kd x ≠ some .local → bindC kd binds cm x = some v)
  | [], _, _, _, _, _, h => by cases h
  | (n, u) :: r, m, cm, x, v, hn, h => by
    obtain ⟨h1, h2⟩ := List.nodup_cons.mp hn
    rcases List.mem_cons.mp h with e | h
    · cases e
      constructor
      · intro hl
        unfold bindL
        rw [bindL_other h1, if_pos hl]; exact if_pos rfl
      · intro hl
        unfold bindC
        rw [bindC_other h1, if_neg hl]; exact if_pos rfl
    · unfold bindL bindC
      exact bind_has h2 h

/-- the arguments, one by one -/
def ForArgs : Nat → (List Value → Prop) → Prop
  | 0, p => p []
  | n + 1, p => ∀ v, ForArgs n fun vs => p (v :: vs)
theorem ForArgs.at : ∀ {n : Nat} {p : List Value → Prop} {vs : List Value}, ForArgs n p → vs.length = n → p vs
  | 0, p, [], h, _ => h
  | n + 1, p, v :: vs, h, e => ForArgs.at (n := n) (p := fun us => p (v :: us)) (h v) (Nat.succ.inj e)

/-- what a def hands back -/
def Gives (v : V) : Out → Prop
  | .ret u => u = v
  | .next _ _ => v = .none
  | _ => False

theorem lookup_zip {x : Str} {v : V} : ∀ {xs : List Str} {vs : List V}, (xs.zip vs).lookup x = some v → ∃ i : Nat, xs[i]? = some x ∧ vs[i]? = some v
  | [], _, h => by simp at h
  | y :: xs, [], h => by simp at h
  | y :: xs, w :: vs, h => by
    rw [List.zip_cons_cons, List.lookup_cons] at h
    by_cases hy : (x == y) = true
    · rw [hy] at h; cases h; exact ⟨0, by rw [eq_of_beq hy]; rfl, rfl⟩
    · have hy' : (x == y) = false := by simpa using hy
      rw [hy'] at h
      obtain ⟨i, h1, h2⟩ := lookup_zip h
      exact ⟨i + 1, h1, h2⟩

section
variable {C : Cx} {k : Nat}
/-- the same for the call itself -/
def CallC (C : Cx) (k : Nat) (f : Value) (args : List V) (v : V) : Prop :=
  ∀ (A : Around) (R : Result → Shared → Prop) (X : Addr → Prop) (s : Shared) (vals : List Value), Room A k → TopH C s.heap → (∀ a, X a → ∃ o, s.heap.get? a = some o) → Reps X s.heap args vals →
    (∀ s' val, Keeps s s' → Rep X s'.heap v val → R (.ok (.ret val)) s') → codeAny (model C.prog C.w) A (.call f ⟨vals, []⟩) R s
theorem CallSpec.ofC {f : Value} {args : List V} {v : V} (h : CallC C k f args v) : CallSpec C k f args v := fun A E X s vals Q rm T dom hr hq => wpAny_call (h A _ X s vals rm T dom hr fun s' val k r => hq s' val k r)

theorem CallC.def {d : DefRec} (hd : d ∈ C.defs) {f : Value} (g : Glo C d.name f) {names : List Str} {args : List V} {v : V}
    (hbody : ∀ L a cd, Exs C k (envOfC d.name d.scope L a cd) (names.zip args) [] d.body (Gives v))
    (hbind : ∀ pm code doc, ForArgs args.length fun vals => bindArgs (Calls.docDef d.name d.params d.body d.scope pm code doc) ⟨vals, []⟩ = pure (names.zip vals))
    (hlen : args.length = names.length) (hnd : names.Nodup)
    (hkind : ∀ n, names.all (fun x => d.scope.names.lookup x == some .local || (d.scope.names.lookup x == some .cell && ((cellsFrom n d.scope.names []).lookup x).isSome)) = true)
    (hco : d.scope.isCoroutine = false) (hgen : d.scope.isGenerator = false) (hk : d.scope.kind = .function) : CallC C (k + 1) f args v := by
  intro A R X s vals rm T dom hr h
  obtain ⟨a, o, pm, code, doc, h1, h2, h3, h4⟩ := T.fn d hd
  have e : f = .ref a := by unfold Glo at g; rw [h1] at g; exact (Option.some.inj g).symm
  subst e
  have hvl : vals.length = args.length := hr.length
  have hnl : vals.length = names.length := hvl.trans hlen
  refine call_cells (by have := rm.depth; omega) h2 h3 T.nolimit h4 (ForArgs.at (hbind pm code doc) hvl) ?_ (fun h₁ tk F Y => ?_) hco hgen hk
  · intro x hx
    have hm : x.1 ∈ names := (List.of_mem_zip (show (x.1, x.2) ∈ names.zip vals from hx)).1
    have := List.all_eq_true.mp (hkind (s.heap.objs.size + 1)) x.1 hm
    rcases Bool.or_eq_true_iff.mp this with q | q
    · exact .inl (by simpa using q)
    · obtain ⟨q1, q2⟩ := Bool.and_eq_true_iff.mp q
      exact .inr ⟨by simpa using q1, q2⟩
  · have hzn : ((names.zip vals).map (·.1)) = names := by rw [List.map_fst_zip (Nat.le_of_eq hnl.symm)]
    have S : St C (envOfC d.name d.scope s.heap.objs.size a code) s X (names.zip args) [] { s with heap := h₁, toks := tk } := by
      refine ⟨_, _, { top := T, ok := ⟨hk, rfl, rfl⟩, call := ⟨⟨⟨h₁, tk, rfl⟩, F.ns, F.keep, F.above⟩, Y.cell, Y.apart, Y.above⟩, vars := fun x w hx => ?_, owns := fun t ht => (by cases ht), apart := .nil, x0 := fun b q => let ⟨o', e'⟩ := dom b q; ⟨o', F.keep b o' e'⟩ }⟩
      obtain ⟨i, hi1, hi2⟩ := lookup_zip hx
      obtain ⟨u, hu, ru⟩ := hr.get hi2
      have hm : (x, u) ∈ names.zip vals := by
        have hi1' := List.getElem?_eq_some_iff.mp hi1
        have hu' := List.getElem?_eq_some_iff.mp hu
        obtain ⟨q1, rfl⟩ := hi1'
        obtain ⟨q2, rfl⟩ := hu'
        refine List.mem_iff_getElem.mpr ⟨i, by simp; omega, by simp⟩
      refine ⟨u, ?_, ru.mono (fun b o' _ _ e' => F.keep b o' e') fun b o' nb _ e' q => ?_⟩
      · have hb := bind_has (kd := (envOfC d.name d.scope s.heap.objs.size a code).kindOf) (m := fun _ => none) (cm := fun _ => none) (by rw [hzn]; exact hnd) hm
        have hxm : x ∈ names := List.mem_of_getElem? hi1
        have := List.all_eq_true.mp (hkind (s.heap.objs.size + 1)) x hxm
        rcases Bool.or_eq_true_iff.mp this with q | q
        · have q : d.scope.names.lookup x = some .local := by simpa using q
          exact .inl ⟨q, hb.1 q⟩
        · obtain ⟨q1, q2⟩ := Bool.and_eq_true_iff.mp q
          have q1 : d.scope.names.lookup x = some .cell := by simpa using q1
          obtain ⟨c, hc⟩ := Option.isSome_iff_exists.mp q2
          have hne : (envOfC d.name d.scope s.heap.objs.size a code).kindOf x ≠ some .local := by
            show d.scope.names.lookup x ≠ _
            rw [q1]; decide
          exact .inr ⟨q1, c, hc, hb.2 hne⟩
      · have hlt := Heap.lt_size e'
        rcases q with q | q | ⟨n, q⟩ | ⟨t, ht, _⟩
        · exact nb q
        · exact Nat.lt_irrefl _ (q ▸ hlt)
        · exact Nat.lt_asymm hlt (Y.above n b (mem_of_lookup q))
        · cases ht
    refine wpAny_mono (hbody s.heap.objs.size a code (A.deeper (envOfC d.name d.scope s.heap.objs.size a code)) _ s X [] _ rm.deeper rfl S) (fun fl s' hh => ?_) fun _ _ x => x
    obtain ⟨o, σb, p, hi, _, _⟩ := hh
    cases o with
    | ret u =>
      cases (show u = v from p)
      obtain ⟨val, rfl, kp, rv⟩ := hi
      exact h s' val kp rv
    | next ρ σ =>
      obtain ⟨rfl, _, S'⟩ := hi
      cases (show v = .none from p)
      exact h s' .none S'.keeps rfl
    | brk _ _ => exact p.elim
    | cont _ _ => exact p.elim

theorem CallSpec.def {d : DefRec} (hd : d ∈ C.defs) {f : Value} (g : Glo C d.name f) {names : List Str} {args : List V} {v : V}
    (hbody : ∀ L a cd, Exs C k (envOfC d.name d.scope L a cd) (names.zip args) [] d.body (Gives v))
    (hbind : ∀ pm code doc, ForArgs args.length fun vals => bindArgs (Calls.docDef d.name d.params d.body d.scope pm code doc) ⟨vals, []⟩ = pure (names.zip vals))
    (hlen : args.length = names.length) (hnd : names.Nodup)
    (hkind : ∀ n, names.all (fun x => d.scope.names.lookup x == some .local || (d.scope.names.lookup x == some .cell && ((cellsFrom n d.scope.names []).lookup x).isSome)) = true)
    (hco : d.scope.isCoroutine = false) (hgen : d.scope.isGenerator = false) (hk : d.scope.kind = .function) : CallSpec C (k + 1) f args v := CallSpec.ofC (CallC.def hd g hbody hbind hlen hnd hkind hco hgen hk)

theorem CallSpec.le {j : Nat} {f : Value} {args : List V} {v : V} (h : CallSpec C j f args v) (hj : j ≤ k) : CallSpec C k f args v := fun A E X s vals Q rm => h A E X s vals Q (rm.le hj)
end
end Mine

end

section
open PySem PySem.W PyProof.Rows
namespace Mine

/-- what an iterator hands out -/
inductive Item where
  | one (v : V)
  | pair (u v : V)
def ItemIs (X : Addr → Prop) (h : Heap) : Item → Value → Prop
  | .one v, val => Rep X h v val
  | .pair u v, val => ∃ T x y, val = .ref T ∧ h.IsTuple T #[x, y] ∧ Rep X h u x ∧ Rep X h v y

def Iterates (C : Cx) (A : Around) (target : Expr) (X : Addr → Prop) (items : List Item) (h₀ : Heap) (I : Addr) (s : Shared) : Prop :=
  ∃ (fp wr : List Addr) (P Md : Nat → Value → Heap → Prop) (St : Nat → Heap → Prop),
    KTurns C.prog C.w A target I fp wr items.length P Md St ∧ St 0 s.heap ∧ (∀ b ∈ wr, h₀.get? b = none) ∧ (∀ b ∈ fp, ¬ X b ∧ ∃ o, s.heap.get? b = some o) ∧
    (∀ i v h it (Y : Addr → Prop), items[i]? = some it → P i v h → (∀ b o, ¬ (X b ∨ b ∈ wr) → IsSeq o → s.heap.get? b = some o → h.get? b = some o) → (∀ b, Y b → (X b ∨ b ∈ wr) ∨ s.heap.get? b = none) → ItemIs Y h it v) ∧
    (∀ i h, St i h → ∀ b ∈ wr, ∃ o, h.get? b = some o) ∧
    (∀ i (s' : Shared) (Q : Value → Shared → Prop) (E : Value → Shared → Prop), St i s'.heap → Q (.ref I) s' → wpAny (model C.prog C.w) A (pyIter (.ref I)) Q E s')

/-- the iterable hands out the items -/
def EvIter (C : Cx) (k : Nat) (env : Env) (ρ : List (Str × V)) (σ : List (Str × Bool × List V)) (target iter : Expr) (items : List Item) : Prop :=
  ∀ (A : Around) (E : Value → Shared → Prop) (X : Addr → Prop) (σa : Owned) (s : Shared) (Q : Value → Shared → Prop), Room A k → own σa = σ → Fe C env X ρ σa s.heap →
    (∀ s' I, Keeps s s' → Iterates C A target X items s.heap I s' → Q (.ref I) s') →
    wpAny (model C.prog C.w) A (eval iter env) (fun xv s₁ => wpAny (model C.prog C.w) A (pyIter xv) Q E s₁) E s

/-- the target takes the item -/
inductive Binds : Expr → Item → List (Str × V) → Prop where
  | one {x : Str} {p : Pos} {v : V} : Binds (.Name x p) (.one v) [(x, v)]
  | pair {a b : Str} {pa pb : Pos} {kk : Nat} {tp : Pos} {u v : V} : Binds (.Tuple [.Name a pa, .Name b pb] kk tp) (.pair u v) [(a, u), (b, v)]

section
variable {C : Cx} {env : Env} {s₀ s : Shared} {X₀ Z : Addr → Prop} {ρ : List (Str × V)} {σa : Owned} {m cm : Str → Option Value}

theorem StM.touch (S : StM C env s₀ (fun a => X₀ a ∨ Z a) ρ σa m cm s) {h' : Heap} (tk : Nat) (hk : ∀ b o, ¬ Z b → s.heap.get? b = some o → h'.get? b = some o) (hz : ∀ a, Z a → ¬ FX env a ∧ s₀.heap.get? a = none ∧ ¬ X₀ a) :
    StM C env s₀ X₀ ρ σa m cm { s with heap := h', toks := tk } ∧ ((∀ a, Z a → ∃ o, h'.get? a = some o) → StM C env s₀ (fun a => X₀ a ∨ Z a) ρ σa m cm { s with heap := h', toks := tk }) := by
  have nz0 : ∀ b o, s₀.heap.get? b = some o → ¬ Z b := fun b o e q => by rw [(hz b q).2.1] at e; cases e
  have nzl : ¬ Z env.locals := fun q => (hz _ q).1 (.inl rfl)
  have nzc : ∀ n c, env.cells.lookup n = some c → ¬ Z c := fun n c e q => (hz _ q).1 (.inr ⟨n, e⟩)
  have call : InCallC s₀ env.locals m env.cells cm { s with heap := h', toks := tk } := by
    obtain ⟨⟨⟨h, t, rfl⟩, ns, keep, fresh⟩, cell, apart, above⟩ := S.call
    exact ⟨⟨⟨h', tk, rfl⟩, ns.at' fun o e => hk _ o nzl e, fun b o e => hk b o (nz0 b o e) (keep b o e), fresh⟩, fun n c e => by
      obtain ⟨o, e1, e2⟩ := cell n c e
      exact ⟨o, hk c o (nzc n c e) e1, e2⟩, apart, above⟩
  have rk : ∀ b o, ¬ XX env (fun a => X₀ a ∨ Z a) σa b → IsSeq o → s.heap.get? b = some o → h'.get? b = some o := fun b o nb _ e => hk b o (fun q => nb (.inl (.inr q))) e
  have hX : ∀ a, XX env X₀ σa a → XX env (fun a => X₀ a ∨ Z a) σa a := fun a h => h.elim (fun q => .inl (.inl q)) .inr
  have lists : ∀ t ∈ σa, ∀ items, (s.heap.IsList t.2.1 items ∧ (t.2.2.1 = true → s.heap.PlainList t.2.1 items)) → (h'.IsList t.2.1 items ∧ (t.2.2.1 = true → h'.PlainList t.2.1 items)) := fun t ht items l => by
    have nt : ¬ Z t.2.1 := fun q => (S.owns t ht).2.1.2 (.inr q)
    obtain ⟨⟨o, e, r⟩, q⟩ := l
    exact ⟨⟨o, hk _ o nt e, r⟩, fun y => (q y).at fun o e => hk _ o nt e⟩
  constructor
  · exact { top := S.top, ok := S.ok, call := call, apart := S.apart
            vars := fun x v e => let ⟨val, h, r⟩ := S.vars x v e; ⟨val, h, r.mono rk fun b _ nb _ _ q => nb (hX b q)⟩
            owns := fun t ht => let ⟨h, f, items, l, r⟩ := S.owns t ht; ⟨h, ⟨f.1, fun q => f.2 (.inl q)⟩, items, lists t ht items l, r.mono rk fun b _ nb _ _ q => nb (hX b q)⟩
            x0 := fun a h => by
              obtain ⟨o, e⟩ := S.x0 a (.inl h)
              by_cases q : Z a
              · exact absurd h (hz a q).2.2
              · exact ⟨o, hk a o q e⟩ }
  · intro hz'
    exact { top := S.top, ok := S.ok, call := call, apart := S.apart
            vars := fun x v e => let ⟨val, h, r⟩ := S.vars x v e; ⟨val, h, r.mono rk fun b _ nb _ _ q => nb q⟩
            owns := fun t ht => let ⟨h, f, items, l, r⟩ := S.owns t ht; ⟨h, f, items, lists t ht items l, r.mono rk fun b _ nb _ _ q => nb q⟩
            x0 := fun a h => by
              by_cases q : Z a
              · exact hz' a q
              · obtain ⟨o, e⟩ := S.x0 a h; exact ⟨o, hk a o q e⟩ }

/-- the target takes an item -/
theorem St.bind {A : Around} {E : Value → Shared → Prop} {Q : Unit → Shared → Prop} {target : Expr} {it : Item} {val : Value} {bs : List (Str × V)} (S : St C env s₀ X₀ ρ σa s) (hh : A.handled = none) (hi : ItemIs (XX env X₀ σa) s.heap it val) (hb : Binds target it bs)
    (hk : ∀ p ∈ bs, Kind env p.1) (ho : ∀ p ∈ bs, ∀ t ∈ σa, t.1 ≠ p.1) (hnd : (bs.map (·.1)).Nodup)
    (h : ∀ s', St C env s₀ X₀ (bs ++ ρ) σa s' → Chg (FX env) s.heap s'.heap → Q () s') : wpAny (model C.prog C.w) A (assign target env val) Q E s := by
  cases hb with
  | one =>
    obtain ⟨m, cm, SM⟩ := S
    exact wpAny_assign_Name (SM.store hi (hk _ List.mem_cons_self) (ho _ List.mem_cons_self) h)
  | pair =>
    obtain ⟨T, x, y, rfl, hT, r1, r2⟩ := hi
    refine wpAny_assign_Tuple hh hT rfl rfl fun h' he => ?_
    have k₁ : Keeps s { s with heap := h' } := keeps_heap s h' (kept_ext he)
    rename_i a b pa pb kk tp u v
    refine St.stores [a, b] _ [u, v] _ ρ _ _ ⟨_, _, rfl, fun M A E v s Q hq => wpAny_assign_Name hq, _, _, rfl, fun M A E v s Q hq => wpAny_assign_Name hq, rfl⟩ rfl (S.grow k₁) ⟨x, [y], rfl, r1.keeps (kept_of k₁), y, [], rfl, r2.keeps (kept_of k₁), rfl⟩
      (fun z hz => ?_) (fun z hz => ?_) fun s' S' ch => ?_
    · rcases List.mem_cons.mp hz with rfl | hz
      · exact hk _ List.mem_cons_self
      · rw [List.mem_singleton.mp hz]; exact hk _ (List.mem_cons_of_mem _ List.mem_cons_self)
    · rcases List.mem_cons.mp hz with rfl | hz
      · exact ho _ List.mem_cons_self
      · rw [List.mem_singleton.mp hz]; exact ho _ (List.mem_cons_of_mem _ List.mem_cons_self)
    · refine h s' (S'.mono fun y v hy => lookup_rev_app hnd y v hy) ⟨fun c o nc e => ch.same c o nc (kept_of k₁ c o e), fun c o e => ch.dom c o (kept_of k₁ c o e)⟩

theorem St.locals_live (S : St C env s₀ X₀ ρ σa s) : ∀ a, FX env a → ∃ o, s.heap.get? a = some o := by
  obtain ⟨m, cm, S⟩ := S
  exact fun a q => S.dom a (q.elim (fun q => .inr (.inl q)) fun q => .inr (.inr (.inl q)))

theorem codeAny_for {prog : Program} {w : World} {A : Around} {R : Result → Shared → Prop} {target : Expr} {body : List Stmt} {I : Addr} {fp wr : List Addr} {n : Nat} {P Md : Nat → Value → Heap → Prop} {It : Nat → Heap → Prop}
    (W : KTurns prog w A target I fp wr n P Md It) (J : Nat → Shared → Prop)
    (turn : ∀ i s, i < n → J i s → It i s.heap ∧ ∀ h₁ tk₁ h₂ v, Md i v h₁ → P i v h₂ → It (i + 1) h₂ → (∀ b o, b ∉ wr → s.heap.get? b = some o → h₂.get? b = some o) →
      wpAny (model prog w) A (assign target env v) (fun _ s₁ => wpAny (model prog w) A (execs body env) (fun f s₂ => match f with
        | .next | .cont => J (i + 1) s₂
        | .brk => R (.ok .next) s₂
        | .ret v => R (.ok (.ret v)) s₂) (notedBy (model prog w) A env fun e s' => R (.error e) s') s₁) (notedBy (model prog w) A env fun e s' => R (.error e) s') { s with heap := h₂, toks := tk₁ })
    (fin : ∀ s, J n s → It n s.heap ∧ ∀ h' tk, (∀ b o, b ∉ wr → s.heap.get? b = some o → h'.get? b = some o) → R (.ok .next) { s with heap := h', toks := tk })
    {s : Shared} (h0 : J 0 s) : codeAny (model prog w) A (.forLoop target (.ref I) body [] env) R s := by
  refine codeAny_forLoop_any (fun k s' => ∃ i, J i s' ∧ i ≤ n ∧ k = n + 1 - i) ?_ (n + 1) ⟨0, h0, Nat.zero_le _, rfl⟩
  rintro k s' ⟨i, hJ, hi, rfl⟩
  by_cases hlt : i < n
  · obtain ⟨st, tn⟩ := turn i s' hlt hJ
    refine W.item i _ _ _ hlt st fun v h₁ tk₁ hMd hk₁ => ?_
    refine W.go i v _ _ _ hMd fun h₂ hP hst₂ hk₂ => ?_
    refine wpAny_mono (tn h₁ tk₁ h₂ v hMd hP hst₂ fun b o hb e => hk₂ b o hb (hk₁ b o hb e)) (fun _ s₂ h₂' => wpAny_mono h₂' (fun f s₃ h₃ => ?_) fun _ _ e => e) fun _ _ e => e
    cases f with
    | ret v => exact h₃
    | brk => exact h₃
    | cont => exact ⟨n + 1 - (i + 1), by omega, i + 1, h₃, hlt, rfl⟩
    | next => exact ⟨n + 1 - (i + 1), by omega, i + 1, h₃, hlt, rfl⟩
  · have hin : i = n := by omega
    subst hin
    obtain ⟨st, tn⟩ := fin s' hJ
    exact W.done _ _ _ st fun h₁ tk₁ hk₁ => wpAny_execs_nil (tn h₁ tk₁ hk₁)
end
section
variable {C : Cx} {k : Nat} {env : Env} {ρ : List (Str × V)} {σ : List (Str × Bool × List V)} {P : Out → Prop}

theorem Ex.for {target iter : Expr} {body : List Stmt} {pos : Pos} {items : List Item} (hi : EvIter C k env ρ σ target iter items) (J : Nat → List (Str × V) → List (Str × Bool × List V) → Prop) (h0 : J 0 ρ σ)
    (step : ∀ i ρ' σ' it, items[i]? = some it → J i ρ' σ' → ∃ bs, Binds target it bs ∧ (∀ p ∈ bs, Kind env p.1) ∧ (bs.all fun p => σ'.all fun q => q.1 != p.1) = true ∧ (bs.map (·.1)).Nodup ∧
      Exs C k env (bs ++ ρ') σ' body (Turn P (J (i + 1))))
    (fin : ∀ ρ' σ', J items.length ρ' σ' → P (.next ρ' σ')) (hs : ∀ x, foldedSetIterable iter env x = pure x := by intro _; rfl) :
    Ex C k env ρ σ (.For target iter body [] pos) P := by
  intro A E s₀ X₀ σa s rm hσ S
  refine wpAny_For (hi A _ _ σa s _ rm hσ S.fe fun s₁ I k₁ hI => ?_) hs
  obtain ⟨fp, wr, Pt, Md, It, W, st, hwr, hfp, items_are, alive, _⟩ := hI
  have kk := kept_of k₁
  have live := S.locals_live
  obtain ⟨m, cm, SM⟩ := S
  have hz : ∀ a, a ∈ wr → ¬ FX env a ∧ s₀.heap.get? a = none ∧ ¬ X₀ a := fun a ha => by
    have hn := hwr a ha
    refine ⟨fun q => ?_, ?_, fun q => ?_⟩
    · obtain ⟨o, e⟩ := live a q; rw [hn] at e; cases e
    · cases q : s₀.heap.get? a with
      | none => rfl
      | some o => have := kept_of SM.keeps _ _ q; rw [hn] at this; cases this
    · obtain ⟨o, e⟩ := SM.x0 a q; rw [hn] at e; cases e
  have S₁ : St C env s₀ (fun a => X₀ a ∨ a ∈ wr) ρ σa s₁ := ⟨m, cm, SM.widen k₁ (· ∈ wr) hwr (alive 0 _ st)⟩
  -- the iterator's own objects stand apart
  have apart : ∀ (σb : Owned), Sub σb σa s₁.heap → (∀ t ∈ σb, t.2.1 ∉ wr) → ∀ b ∈ fp, ¬ MX env σb b := by
    intro σb sub nw b hb q
    obtain ⟨nX, o, e⟩ := hfp b hb
    rcases q with q | q | q | ⟨t, ht, rfl⟩
    · exact q
    · exact nX (.inr (.inl q))
    · exact nX (.inr (.inr (.inl q)))
    · rcases sub t ht with ⟨u, hu, q⟩ | q
      · exact nX (.inr (.inr (.inr ⟨u, hu, q⟩)))
      · rw [q] at e; cases e
  refine codeAny_for W (fun i s' => ∃ ρ' σ' σb, J i ρ' σ' ∧ Mine.own σb = σ' ∧ St C env s₀ (fun a => X₀ a ∨ a ∈ wr) ρ' σb s' ∧ It i s'.heap ∧ (∀ b o, ¬ MX env σa b → b ∉ wr → s₁.heap.get? b = some o → s'.heap.get? b = some o) ∧ (∀ b o, s₁.heap.get? b = some o → ∃ o', s'.heap.get? b = some o') ∧ Sub σb σa s₁.heap)
    (fun i s' hlt hJ => ?_) (fun s' hJ => ?_) ⟨ρ, σ, σa, h0, hσ, S₁, st, fun b o _ _ e => e, fun b o e => ⟨o, e⟩, Sub.refl⟩
  · obtain ⟨ρ', σ', σb, hJ, hσb, S', it', ch', dm', sub'⟩ := hJ
    refine ⟨it', fun h₁ tk₁ h₂ v hMd hPt it₂ hk₂ => ?_⟩
    obtain ⟨it, hit⟩ : ∃ it, items[i]? = some it := ⟨_, List.getElem?_eq_getElem hlt⟩
    obtain ⟨bs, hb, hkd, ho, hnd, hbody⟩ := step i ρ' σ' it hit hJ
    obtain ⟨m', cm', SM'⟩ := S'
    have S₂ := (SM'.touch (h' := h₂) tk₁ (fun b o nb e => hk₂ b o nb e) hz).2 (alive (i + 1) _ it₂)
    have nw : ∀ t ∈ σb, t.2.1 ∉ wr := fun t ht q => (SM'.owns t ht).2.1.2 (.inr q)
    have isI : ItemIs (XX env (fun a => X₀ a ∨ a ∈ wr) σb) h₂ it v := by
      refine items_are i v h₂ it _ hit hPt (fun b o nb _ e => hk₂ b o (fun q => nb (.inr q)) (ch' b o (fun q => nb (.inl q.le)) (fun q => nb (.inr q)) e)) ?_
      rintro b ((q | q) | q | q | ⟨t, ht, rfl⟩)
      · exact .inl (.inl (.inl q))
      · exact .inl (.inr q)
      · exact .inl (.inl (.inr (.inl q)))
      · exact .inl (.inl (.inr (.inr (.inl q))))
      · rcases sub' t ht with ⟨u, hu, q⟩ | q
        · exact .inl (.inl (.inr (.inr (.inr ⟨u, hu, q⟩))))
        · exact .inr q
    refine St.bind ⟨m', cm', S₂⟩ rm.handled isI hb hkd (fun p hp => own_ne (hσb ▸ List.all_eq_true.mp ho p hp)) hnd fun s₃ S₃ ch₃ => ?_
    refine wpAny_mono (hbody A _ s₀ _ σb s₃ rm hσb S₃) (fun fl s₄ hh => ?_) fun _ _ e => e
    obtain ⟨o, σc, p, ho', ch₄, sub₄⟩ := hh
    -- from the turn's start to its end
    have dm₂ : ∀ b o, s'.heap.get? b = some o → ∃ o', h₂.get? b = some o' := fun b o e => by
      by_cases q : b ∈ wr
      · exact alive (i + 1) _ it₂ b q
      · exact ⟨o, hk₂ b o q e⟩
    have cc : Chg (MX env σb) h₂ s₄.heap := chg_trans ch₃.fr Sub.refl ch₄
    have dm : ∀ b o, s₁.heap.get? b = some o → ∃ o', s₄.heap.get? b = some o' := fun b o e => by
      obtain ⟨o', e'⟩ := dm' b o e
      obtain ⟨o'', e''⟩ := dm₂ b o' e'
      exact cc.dom b o'' e''
    have lift : ∀ b o, ¬ MX env σa b → b ∉ wr → s₁.heap.get? b = some o → s₄.heap.get? b = some o := fun b o nb nw' e => by
      refine cc.same b o (fun q => ?_) (hk₂ b o nw' (ch' b o nb nw' e))
      rcases q with q | q | q | ⟨t, ht, rfl⟩
      · exact q
      · exact nb (.inr (.inl q))
      · exact nb (.inr (.inr (.inl q)))
      · rcases sub' t ht with ⟨u, hu, q⟩ | q
        · exact nb (.inr (.inr (.inr ⟨u, hu, q⟩)))
        · rw [q] at e; cases e
    have sub₅ : Sub σc σa s₁.heap := fun t ht => by
      rcases sub₄ t ht with ⟨u, hu, q⟩ | q
      · rcases sub' u hu with ⟨x, hx, q'⟩ | q'
        · exact .inl ⟨x, hx, q'.trans q⟩
        · exact .inr (q ▸ q')
      · refine .inr ?_
        cases e : s₁.heap.get? t.2.1 with
        | none => rfl
        | some o =>
          obtain ⟨o', e'⟩ := dm' _ o e
          obtain ⟨o'', e''⟩ := dm₂ _ o' e'
          obtain ⟨o3, e3⟩ := ch₃.dom _ o'' e''
          rw [q] at e3; cases e3
    have it₄ : It (i + 1) s₄.heap := W.frame _ _ _ it₂ fun b hb o e => cc.same b o (apart σb sub' nw b hb) e
    have out : Chg (MX env σa) s.heap s₄.heap := ⟨fun b o nb e => lift b o nb (fun q => by rw [hwr b q] at e; cases e) (kk b o e), fun b o e => dm b o (kk b o e)⟩
    have suo : Sub σc σa s.heap := fun t ht => by
      rcases sub₅ t ht with q | q
      · exact .inl q
      · refine .inr ?_
        cases e : s.heap.get? t.2.1 with
        | none => rfl
        | some o => have := kk _ o e; rw [q] at this; cases this
    cases o with
    | next ρ₂ σ₂ =>
      obtain ⟨rfl, h1, S₄⟩ := ho'
      exact ⟨ρ₂, σ₂, σc, p, h1, S₄, it₄, lift, dm, sub₅⟩
    | cont ρ₂ σ₂ =>
      obtain ⟨rfl, h1, S₄⟩ := ho'
      exact ⟨ρ₂, σ₂, σc, p, h1, S₄, it₄, lift, dm, sub₅⟩
    | brk ρ₂ σ₂ =>
      obtain ⟨rfl, h1, m₄, cm₄, S₄⟩ := ho'
      exact ⟨.next ρ₂ σ₂, σc, p, ⟨rfl, h1, m₄, cm₄, S₄.narrow⟩, out, suo⟩
    | ret v =>
      obtain ⟨val, rfl, kp, r⟩ := ho'
      exact ⟨.ret v, σc, p, ⟨val, rfl, kp, r.weak fun _ q => .inl q⟩, out, suo⟩
  · obtain ⟨ρ', σ', σb, hJ, hσb, S', it', ch', dm', sub'⟩ := hJ
    refine ⟨it', fun h₁ tk₁ hk₁ => ?_⟩
    obtain ⟨m', cm', SM'⟩ := S'
    have S₂ := (SM'.touch (h' := h₁) tk₁ (fun b o nb e => hk₁ b o nb e) hz).1
    have nw : ∀ b o, s.heap.get? b = some o → b ∉ wr := fun b o e q => by rw [hwr b q] at e; cases e
    refine ⟨.next ρ' σ', σb, fin ρ' σ' hJ, ⟨rfl, hσb, m', cm', S₂⟩, ⟨fun b o nb e => hk₁ b o (nw b o e) (ch' b o nb (nw b o e) (kk b o e)), fun b o e => ?_⟩, fun t ht => ?_⟩
    · obtain ⟨o', e'⟩ := dm' b o (kk b o e)
      exact ⟨o', hk₁ b o' (nw b o e) e'⟩
    · rcases sub' t ht with q | q
      · exact .inl q
      · refine .inr ?_
        cases e : s.heap.get? t.2.1 with
        | none => rfl
        | some o => have := kk _ o e; rw [q] at this; cases this
end
end Mine

end

section
open PySem PySem.W PyProof.Rows PyProof.Rows.LCg
namespace Mine

/-- a comprehension's own tests: none or one -/
def EvTs (C : Cx) (k : Nat) (env : Env) (ρ : List (Str × V)) (σ : List (Str × Bool × List V)) : List Expr → Bool → Prop
  | [], b => b = true
  | [c], b => EvT C k env ρ σ c b
  | _, _ => False

theorem EvTs.run {C : Cx} {k : Nat} {env : Env} {ρ : List (Str × V)} {σ : List (Str × Bool × List V)} {ifs : List Expr} {b : Bool} (h : EvTs C k env ρ σ ifs b) {A : Around} {E : Value → Shared → Prop} {X : Addr → Prop} {σa : Owned} {s : Shared} {Q : Bool → Shared → Prop}
    (rm : Room A k) (hσ : own σa = σ) (f : Fe C env X ρ σa s.heap) (hq : ∀ s', Keeps s s' → Q b s') :
    wpAny (model C.prog C.w) A (forIn ifs true fun c r => if r = true then do let ok ← isTrue c env (eval c env); pure (ForInStep.yield ok) else pure (ForInStep.yield r)) Q E s := by
  match ifs, h with
  | [], h => cases h; exact wpAny_tests_nil (hq s (keeps_refl s))
  | [c], h => exact wpAny_tests_one (h A E X σa s Q rm hσ f hq)

section
variable {prog : Program} {w : World} {A : Around} {R : Result → Shared → Prop}
theorem codeAny_comp {elt target iter : Expr} {ifs : List Expr} {scope : Scope} {pos : Pos} {acc : Value} {env : Env} {I : Addr} {fp wr : List Addr} {n : Nat} {P Md : Nat → Value → Heap → Prop} {It : Nat → Heap → Prop}
    (W : KTurns prog w A target I fp wr n P Md It) (J : Nat → Shared → Prop)
    (turn : ∀ i s, i < n → J i s → It i s.heap ∧ ∀ tk₁ h₂ v, P i v h₂ → It (i + 1) h₂ → (∀ b o, b ∉ wr → s.heap.get? b = some o → h₂.get? b = some o) →
      wpAny (model prog w) A (assign target env v) (fun _ s₂ =>
          wpAny (model prog w) A (forIn ifs true fun c r => if r = true then do let ok ← isTrue c env (eval c env); pure (ForInStep.yield ok) else pure (ForInStep.yield r)) (fun ok s₃ =>
            if ok = true then wpAny (model prog w) A (eval elt env) (fun x s₄ =>
              wpAny (model prog w) A (call (.builtin "list.append") [acc, x]) (fun _ s₅ => J (i + 1) s₅) (notedBy (model prog w) A env fun e s' => R (.error e) s') s₄) (notedBy (model prog w) A env fun e s' => R (.error e) s') s₃
            else J (i + 1) s₃) (notedBy (model prog w) A env fun e s' => R (.error e) s') s₂) (notedBy (model prog w) A env fun e s' => R (.error e) s') { s with heap := h₂, toks := tk₁ })
    (fin : ∀ s, J n s → It n s.heap ∧ ∀ h' tk, (∀ b o, b ∉ wr → s.heap.get? b = some o → h'.get? b = some o) → R (.ok .next) { s with heap := h', toks := tk })
    {s : Shared} (h0 : J 0 s) : codeAny (model prog w) A (.compLoop (.ListComp elt [⟨target, iter, ifs, 0⟩] scope pos) 0 (.ref I) acc env) R s := by
  refine codeAny_loop rfl (fun k s' => ∃ i, J i s' ∧ i ≤ n ∧ k = n + 1 - i) (fun k s hI => ?_) (n + 1) ⟨0, h0, Nat.zero_le _, rfl⟩
  obtain ⟨i, hJ, hi, rfl⟩ := hI
  show wpAny _ A ((compTurn (.ListComp elt [⟨target, iter, ifs, 0⟩] scope pos) 0 (.ref I) acc env).onRaise (fun x => do noteFrame x env; theTreesLotGoes x)) _ _ s
  refine wpAny_noted ?_
  rw [compTurn_list]
  refine wpAny_bind (wpAny_standAt (wpAny_bind ?_))
  by_cases hlt : i < n
  · obtain ⟨st, tn⟩ := turn i s hlt hJ
    refine W.item i _ _ _ hlt st fun v h₁ tk₁ hMd hk₁ => ?_
    refine wpAny_bind (W.go i v _ _ _ hMd fun h₂ hP hst₂ hk₂ => ?_)
    refine wpAny_bind (wpAny_mono (tn tk₁ h₂ v hP hst₂ fun b o hb e => hk₂ b o hb (hk₁ b o hb e)) (fun _ s₂ h₂' => wpAny_bind (wpAny_mono h₂' (fun ok s₃ h₃ => ?_) fun _ _ h' => h')) fun _ _ h' => h')
    cases ok with
    | false => exact wpAny_pure ⟨rfl, n + 1 - (i + 1), by omega, i + 1, h₃, hlt, rfl⟩
    | true =>
      exact wpAny_bind (wpAny_bind (wpAny_mono h₃ (fun x s₄ h₄ => wpAny_bind (wpAny_mono h₄ (fun _ s₅ h₅ => wpAny_pure (wpAny_pure ⟨rfl, n + 1 - (i + 1), by omega, i + 1, h₅, hlt, rfl⟩)) fun _ _ h' => h')) fun _ _ h' => h'))
  · have hin : i = n := by omega
    subst hin
    obtain ⟨st, tn⟩ := fin s hJ
    exact W.done _ _ _ st fun h₁ tk₁ hk₁ => wpAny_pure (tn h₁ tk₁ hk₁)

/-- the comprehension's target takes an item -/
theorem comp_bind {E : Value → Shared → Prop} {Q : Unit → Shared → Prop} {s : Shared} {X : Addr → Prop} {env : Env} {target : Expr} {it : Item} {val : Value} {bs : List (Str × V)} {m : Str → Option Value} (hh : A.handled = none)
    (hi : ItemIs X s.heap it val) (hb : Binds target it bs) (hn : s.heap.Ns env.locals m) (hk : ∀ p ∈ bs, env.kindOf p.1 = some .local) (hkind : env.scope.kind = .function) (hnd : (bs.map (·.1)).Nodup)
    (h : ∀ (h' : Heap) (tk : Nat) m', h'.Ns env.locals m' → (∀ x v, bs.lookup x = some v → ∃ u, m' x = some u ∧ Rep X h' v u) → (∀ c o, c ≠ env.locals → s.heap.get? c = some o → h'.get? c = some o) → Q () { s with heap := h', toks := tk }) :
    wpAny (model prog w) A (assign target env val) Q E s := by
  have hp : (env.scope.kind == .class || (env.scope.kind == .module && env.locals != env.globals)) = false := by rw [hkind]; rfl
  have keep : ∀ (h' : Heap) (v : V) (u : Value), (∀ c o, c ≠ env.locals → s.heap.get? c = some o → h'.get? c = some o) → Rep X s.heap v u → Rep X h' v u := fun h' v u k r =>
    r.mono (fun b o _ sq e => k b o (fun q => ns_not_seq hn (q ▸ e) sq) e) fun b o n _ _ => n
  cases hb with
  | one =>
    rename_i x _ v
    refine wpAny_assign_Name (wpAny_storeName_local (hk _ List.mem_cons_self) hn (fun h' hn' hs' => ?_) hp)
    refine h h' _ _ hn' (fun y w hy => ?_) fun c o hc e => hs'.extBut c o hc e
    rw [List.lookup_cons] at hy
    by_cases q : (y == x) = true
    · rw [q] at hy; cases hy
      rw [eq_of_beq q]
      exact ⟨val, by simp, keep h' _ _ (fun c o hc e => hs'.extBut c o hc e) hi⟩
    · have q' : (y == x) = false := by simpa using q
      rw [q'] at hy; cases hy
  | pair =>
    rename_i a b pa pb kk tp u v
    obtain ⟨T, x, y, rfl, hT, r1, r2⟩ := hi
    refine kcp_assign hh hT (hk _ List.mem_cons_self) (hk _ (List.mem_cons_of_mem _ List.mem_cons_self)) hp hn fun h' tk hn' hk' => ?_
    have hab : a ≠ b := fun q => (List.nodup_cons.mp hnd).1 (by rw [q]; exact List.mem_cons_self)
    refine h h' tk _ hn' (fun z w hz => ?_) hk'
    rw [List.lookup_cons] at hz
    by_cases q : (z == a) = true
    · rw [q] at hz; cases hz
      rw [eq_of_beq q]
      exact ⟨x, by simp [hab], keep h' _ _ hk' r1⟩
    · have q' : (z == a) = false := by simpa using q
      rw [q', List.lookup_cons] at hz
      by_cases q2 : (z == b) = true
      · rw [q2] at hz; cases hz
        rw [eq_of_beq q2]
        exact ⟨y, by simp, keep h' _ _ hk' r2⟩
      · have q2' : (z == b) = false := by simpa using q2
        rw [q2'] at hz; cases hz
end

/-- the names that a comprehension takes from the frame around it -/
def frees (scope : Scope) : List Str := (scope.names.filter (fun p => p.2 == .free)).map (·.1)
def seen (scope : Scope) (ρ : List (Str × V)) : List (Str × V) := (frees scope).filterMap fun x => (ρ.lookup x).map (x, ·)
def FreeIn (env cenv : Env) : List Str → Prop
  | [] => True
  | x :: r => (env.kindOf x = some .cell ∧ cenv.kindOf x = some .cell ∧ cenv.cells.lookup x = env.cells.lookup x) ∧ FreeIn env cenv r
theorem FreeIn.mem {env cenv : Env} : ∀ {l : List Str} {x : Str}, FreeIn env cenv l → x ∈ l → env.kindOf x = some .cell ∧ cenv.kindOf x = some .cell ∧ cenv.cells.lookup x = env.cells.lookup x
  | _ :: _, x, h, hx => by
    rcases List.mem_cons.mp hx with rfl | hx
    · exact h.1
    · exact FreeIn.mem h.2 hx
theorem seen_lookup {ρ : List (Str × V)} {x : Str} {v : V} : ∀ {l : List Str}, (l.filterMap fun x => (ρ.lookup x).map (x, ·)).lookup x = some v → x ∈ l ∧ ρ.lookup x = some v
  | [], h => by cases h
  | y :: l, h => by
    rw [List.filterMap_cons] at h
    cases q : ρ.lookup y with
    | none =>
      rw [q] at h
      obtain ⟨h1, h2⟩ := seen_lookup (l := l) h
      exact ⟨List.mem_cons_of_mem _ h1, h2⟩
    | some w =>
      rw [q] at h
      simp only [Option.map_some] at h
      rw [List.lookup_cons] at h
      by_cases e : (x == y) = true
      · rw [e] at h; cases h
        rw [eq_of_beq e]; exact ⟨List.mem_cons_self, q⟩
      · have e' : (x == y) = false := by simpa using e
        rw [e'] at h
        obtain ⟨h1, h2⟩ := seen_lookup (l := l) h
        exact ⟨List.mem_cons_of_mem _ h1, h2⟩

section
variable {C : Cx} {k : Nat} {env : Env} {ρ : List (Str × V)} {σ : List (Str × Bool × List V)}

/-- what each item gives -/
def CompElt (C : Cx) (k : Nat) (env : Env) (ρ : List (Str × V)) (scope : Scope) (cl : List (Str × Addr)) (target elt : Expr) (ifs : List Expr) (it : Item) (r : Option V) : Prop :=
  ∃ bs b, Binds target it bs ∧ (bs.all fun p => scope.names.lookup p.1 == some .local) = true ∧ (bs.map (·.1)).Nodup ∧
    ∀ D, EvTs C k (compEnvC scope cl D env) (bs ++ seen scope ρ) [] ifs b ∧ (b = true → ∃ v, r = some v ∧ EvE C k (compEnvC scope cl D env) (bs ++ seen scope ρ) [] elt v) ∧ (b = false → r = none)

theorem comp_block {A : Around} {E : Value → Shared → Prop} {X : Addr → Prop} {σa : Owned} {s s₁ : Shared} {I : Addr} {target iter elt : Expr} {ifs : List Expr} {scope : Scope} {cl : List (Str × Addr)} {pos : Pos} {items : List Item} {f : Item → Option V} {RR : Value → Addr → Result → Shared → Prop}
    (rm : Room A k) (fe : Fe C env X ρ σa s.heap) (k₁ : Keeps s s₁) (hI : Iterates C A target X items s.heap I s₁) (hcell : ∀ y ∈ scope.names, y.2 ≠ .cell) (hkind : scope.kind = .function)
    (hfree : FreeIn env (compEnvC scope cl 0 env) (frees scope)) (helt : ∀ it ∈ items, CompElt C k env ρ scope cl target elt ifs it (f it)) (hsz : items.length ≤ sizeLine)
    (hRR : ∀ D B h' tk m' ys, s₁.heap.get? D = none → s₁.heap.get? B = none → D ≠ B → h'.Ns B m' → h'.PlainList D ys → ¬ X D → Reps X h' (items.filterMap f) ys.toList → Reps (fun b => X b ∨ b = D) h' (items.filterMap f) ys.toList → Kept s.heap h' → RR (.ref D) B (.ok .next) { s₁ with heap := h', toks := tk }) :
    wpAny (model C.prog C.w) A (newList []) (fun acc s₃ => wpAny (model C.prog C.w) A (newFunctionEnv scope env.globals cl [] env.qual none .none (some env)) (fun cenv s₄ =>
      codeAny (model C.prog C.w) A (.compStart (.ListComp elt [⟨target, iter, ifs, 0⟩] scope pos) 0 (.ref I) acc { cenv with scope := relabel scope env }) (RR acc cenv.locals) s₄) E s₃) E s₁ := by
  obtain ⟨fp, wr, Pt, Md, It, W, st, hwr, hfp, items_are, alive, self⟩ := hI
  refine wpAny_newObj_type (wpAny_newFunctionEnv hcell (by intro y hy; simp at hy) (fun h₁ hns₁ hsb₁ => ?_) hkind)
  dsimp only at hns₁ hsb₁ ⊢
  generalize hH2 : s₁.heap.push { cls := .type "list", dict := none, data := .seq ([] : List Value).toArray } = H2 at hns₁ hsb₁ ⊢
  have hB : H2.objs.size = s₁.heap.objs.size + 1 := by rw [← hH2, Heap.size_push]
  have hDB : s₁.heap.objs.size ≠ H2.objs.size := by rw [hB]; exact Nat.ne_of_lt (Nat.lt_succ_self _)
  generalize hDe : s₁.heap.objs.size = D at hB hDB ⊢
  generalize hBe : H2.objs.size = B at hns₁ hsb₁ hB hDB ⊢
  have nD : s₁.heap.get? D = none := Heap.get?_none_of_le (Nat.le_of_eq hDe)
  have nB : s₁.heap.get? B = none := Heap.get?_none_of_le (by rw [hDe, hB]; exact Nat.le_succ _)
  have old : ∀ b o, s₁.heap.get? b = some o → h₁.get? b = some o := fun b o e => hsb₁.extBut b o (fun q => by rw [q, nB] at e; cases e) (Heap.get?_push_of_some _ (hH2 ▸ Heap.get?_push_of_some _ e))
  have hacc : h₁.PlainList D #[] := ⟨0, hsb₁.extBut _ _ hDB (Heap.get?_push_of_some _ (by rw [← hH2, ← hDe]; exact Heap.get?_push_size _ rfl))⟩
  have kk := kept_of k₁
  have live : ∀ b o, s.heap.get? b = some o → b ∉ wr ∧ b ≠ D ∧ b ≠ B := fun b o e => ⟨fun q => (by rw [hwr b q] at e; cases e), fun q => (by have := kk b o e; rw [q, nD] at this; cases this), fun q => (by have := kk b o e; rw [q, nB] at this; cases this)⟩
  have live₁ : ∀ b o, s₁.heap.get? b = some o → b ≠ D ∧ b ≠ B := fun b o e => ⟨fun q => (by rw [q, nD] at e; cases e), fun q => (by rw [q, nB] at e; cases e)⟩
  have wrlive : ∀ b, b ∈ wr → b ≠ D ∧ b ≠ B := fun b hb => by obtain ⟨o, e⟩ := alive 0 _ st b hb; exact live₁ b o e
  -- the addresses out of the values' reach
  let Y : Addr → Prop := fun b => (X b ∨ b ∈ wr) ∨ b = D ∨ b = B
  have hYX : ∀ b, Y b → (X b ∨ b ∈ wr) ∨ s₁.heap.get? b = none := fun b q => q.elim .inl fun q => .inr (q.elim (fun q => q ▸ nD) fun q => q ▸ nB)
  have hYs : ∀ b o, ¬ X b → IsSeq o → s.heap.get? b = some o → ¬ Y b := fun b o nb _ e q => by
    obtain ⟨l1, l2, l3⟩ := live b o e
    rcases q with (q | q) | q | q
    · exact nb q
    · exact l1 q
    · exact l2 q
    · exact l3 q
  have hnX : ∀ b, X b → b ≠ D ∧ b ≠ B ∧ b ∉ wr := fun b q => by obtain ⟨o, e⟩ := fe.dom b q; obtain ⟨l1, l2, l3⟩ := live b o e; exact ⟨l2, l3, l1⟩
  have loop : ∀ s₃ : Shared, s₃ = { s₁ with heap := h₁, toks := s₁.toks + ([] : List (Str × Value)).length } →
      codeAny (model C.prog C.w) A (.compLoop (.ListComp elt [⟨target, iter, ifs, 0⟩] scope pos) 0 (.ref I) (.ref D) (compEnvC scope cl B env)) (RR (.ref D) B) s₃ := by
    rintro s₃ rfl
    refine codeAny_comp W (fun i s' => ∃ h' tk m' ys, s' = { s₁ with heap := h', toks := tk } ∧ i ≤ items.length ∧ It i h' ∧ h'.Ns B m' ∧ h'.PlainList D ys ∧ Reps Y h' ((items.take i).filterMap f) ys.toList ∧ (∀ b o, b ∉ wr → s₁.heap.get? b = some o → h'.get? b = some o))
      (fun i s' hlt hJ => ?_) (fun s' hJ => ?_) ⟨h₁, _, _, #[], rfl, Nat.zero_le _, W.frame 0 _ _ st fun b hb o e => old b o e, hns₁, hacc, rfl, fun b o _ e => old b o e⟩
    · obtain ⟨h', tk, m', ys, rfl, hi, it', ns', hl', rys, kp'⟩ := hJ
      refine ⟨it', fun tk₁ h₂ v hP it₂ hk₂ => ?_⟩
      obtain ⟨it, hit⟩ : ∃ it, items[i]? = some it := ⟨_, List.getElem?_eq_getElem hlt⟩
      obtain ⟨bs, b, hb, hloc, hnd, hev⟩ := helt it (List.mem_of_getElem? hit)
      obtain ⟨htest, hT, hF⟩ := hev B
      have kp₂ : ∀ b o, b ∉ wr → s₁.heap.get? b = some o → h₂.get? b = some o := fun b o nb e => hk₂ b o nb (kp' b o nb e)
      have nBw : B ∉ wr := fun q => (wrlive B q).2 rfl
      have nDw : D ∉ wr := fun q => (wrlive D q).1 rfl
      have isI : ItemIs Y h₂ it v := items_are i v h₂ it Y hit hP (fun b o nb _ e => kp₂ b o (fun q => nb (.inr q)) e) hYX
      have ns₂ : h₂.Ns B m' := ns'.at' fun o e => hk₂ B o nBw e
      have hl₂ : h₂.PlainList D ys := hl'.at fun o e => hk₂ D o nDw e
      have rys₂ : Reps Y h₂ ((items.take i).filterMap f) ys.toList := rys.mono (fun b o nb _ e => hk₂ b o (fun q => nb (.inl (.inr q))) e) fun _ _ n _ _ => n
      refine comp_bind (env := compEnvC scope cl B env) rm.handled isI hb ns₂ (fun p hp => lookup_relabel_local (by simpa using List.all_eq_true.mp hloc p hp)) hkind hnd fun h₃ tk₃ m₃ ns₃ hbs hk₃ => ?_
      have kp₃ : ∀ b o, b ∉ wr → s₁.heap.get? b = some o → h₃.get? b = some o := fun b o nb e => hk₃ b o (live₁ b o e).2 (kp₂ b o nb e)
      have it₃ : It (i + 1) h₃ := W.frame _ _ _ it₂ fun b hb o e => hk₃ b o (by obtain ⟨_, o', e'⟩ := hfp b hb; exact (live₁ b o' e').2) e
      have hl₃ : h₃.PlainList D ys := hl₂.at fun o e => hk₃ D o hDB e
      have rys₃ : Reps Y h₃ ((items.take i).filterMap f) ys.toList := rys₂.mono (fun b o nb _ e => hk₃ b o (fun q => nb (.inr (.inr q))) e) fun _ _ n _ _ => n
      have all₃ : Kept s.heap h₃ := fun b o e => kp₃ b o (live b o e).1 (kk b o e)
      have fe₃ : Fe C (compEnvC scope cl B env) Y (bs ++ seen scope ρ) [] h₃ := by
        refine { top := fe.top.keeps all₃, ok := ⟨hkind, fe.ok.globals, fe.ok.builtins⟩, dom := fun a q => ?_, vars := fun x w hx => ?_, owns := fun t ht => by cases ht }
        · rcases q with (q | q) | q | q
          · obtain ⟨o, e⟩ := fe.dom a q; exact ⟨o, all₃ a o e⟩
          · exact alive _ _ it₃ a q
          · obtain ⟨n, e⟩ := hl₃; exact ⟨_, q ▸ e⟩
          · obtain ⟨o, _, _, e, _⟩ := ns₃; exact ⟨o, by rw [q]; exact e⟩
        · rw [List.lookup_append] at hx
          cases q : bs.lookup x with
          | some w' =>
            rw [q] at hx; cases hx
            obtain ⟨u, hu, ru⟩ := hbs x w q
            have hl := List.all_eq_true.mp hloc (x, w) (lookup_mem q)
            exact ⟨u, .inl ⟨lookup_relabel_local (by simpa using hl), m₃, ns₃, hu⟩, ru⟩
          | none =>
            rw [q, Option.none_or] at hx
            obtain ⟨hm, hρ⟩ := seen_lookup hx
            obtain ⟨u, sv, ru⟩ := fe.vars x w hρ
            obtain ⟨e1, e2, e3⟩ := hfree.mem hm
            refine ⟨u, .inr ⟨e2, ?_⟩, ru.mono (fun b o nb _ e => all₃ b o e) hYs⟩
            rcases sv with ⟨l1, _⟩ | ⟨_, c, l2, l3⟩
            · rw [e1] at l1; cases l1
            · exact ⟨c, e3.trans l2, l3.keeps all₃⟩
      refine htest.run rm rfl fe₃ fun s₄ k₄ => ?_
      have q₄ := kept_of k₄
      have fe₄ := fe₃.keeps q₄
      have base : ∀ (s₅ : Shared), Keeps { s₁ with heap := h₃, toks := tk₃ } s₅ → ∃ h₅ tk₅, s₅ = { s₁ with heap := h₅, toks := tk₅ } ∧ Kept h₃ h₅ := fun s₅ k => by obtain ⟨h, t, e, kk⟩ := k; exact ⟨h, t, e, kk⟩
      cases b with
      | false =>
        simp only [Bool.false_eq_true, if_false]
        obtain ⟨h₅, tk₅, rfl, k₅⟩ := base _ k₄
        refine ⟨h₅, tk₅, m₃, ys, rfl, hlt, W.frame _ _ _ it₃ fun b _ o e => k₅ b o e, ns₃.keeps k₅, hl₃.at fun o e => k₅ D o e, ?_, fun b o nb e => k₅ b o (kp₃ b o nb e)⟩
        rw [List.take_add_one, hit, List.filterMap_append]
        have hn : f it = none := hF rfl
        simp only [Option.toList_some, List.filterMap_cons, hn, List.filterMap_nil, List.append_nil]
        exact rys₃.keeps k₅
      | true =>
        simp only [if_true]
        obtain ⟨w', hw', hev'⟩ := hT rfl
        refine hev' A _ Y [] s₄ _ rm rfl fe₄ fun s₅ y k₅ ry => ?_
        obtain ⟨h₅, tk₅, rfl, q₅⟩ := base _ (keeps_trans k₄ k₅)
        have hl₅ : h₅.PlainList D ys := hl₃.at fun o e => q₅ D o e
        have hlen : ys.size ≤ sizeLine := by
          have := rys₃.length
          have h2 : ((items.take i).filterMap f).length ≤ (items.take i).length := List.length_filterMap_le _ _
          have h3 : (items.take i).length ≤ i := List.length_take_le _ _
          have : ys.size = ((items.take i).filterMap f).length := by rw [← this]; simp
          omega
        refine wpAny_list_append_plain (hsz := hlen) hl₅ fun h₆ hl₆ hs₆ => ?_
        have nd : ∀ b o, b ≠ D → h₅.get? b = some o → h₆.get? b = some o := fun b o nb e => hs₆.extBut b o nb e
        refine ⟨h₆, tk₅, m₃, ys.push y, rfl, hlt, W.frame _ _ _ it₃ fun b hb o e => nd b o (by obtain ⟨_, o', e'⟩ := hfp b hb; exact (live₁ b o' e').1) (q₅ b o e), (ns₃.keeps q₅).at' fun o e => nd B o (Ne.symm hDB) e, hl₆, ?_, fun b o nb e => nd b o (live₁ b o e).1 (q₅ b o (kp₃ b o nb e))⟩
        rw [List.take_add_one, hit, List.filterMap_append, Array.toList_push]
        simp only [Option.toList_some, List.filterMap_cons, hw', List.filterMap_nil]
        have up : ∀ b o, ¬ Y b → IsSeq o → h₅.get? b = some o → h₆.get? b = some o := fun b o nb _ e => nd b o (fun q => nb (.inr (.inl q))) e
        exact ((rys₃.keeps q₅).mono up fun _ _ n _ _ => n).append (Reps.one (ry.mono up fun _ _ n _ _ => n))
    · obtain ⟨h', tk, m', ys, rfl, hi, it', ns', hl', rys, kp'⟩ := hJ
      refine ⟨it', fun h₂ tk₂ hk₂ => ?_⟩
      have nBw : B ∉ wr := fun q => (wrlive B q).2 rfl
      have nDw : D ∉ wr := fun q => (wrlive D q).1 rfl
      rw [List.take_of_length_le (Nat.le_refl _)] at rys
      have rf : Reps Y h₂ (items.filterMap f) ys.toList := rys.mono (fun b o nb _ e => hk₂ b o (fun q => nb (.inl (.inr q))) e) fun _ _ n _ _ => n
      exact hRR D B h₂ tk₂ m' ys nD nB hDB (ns'.at' fun o e => hk₂ B o nBw e) (hl'.at fun o e => hk₂ D o nDw e) (fun q => (hnX D q).1 rfl)
        (rf.weak fun b q => .inl (.inl q)) (rf.weak fun b q => q.elim (fun q => .inl (.inl q)) fun q => .inr (.inl q)) (fun b o e => hk₂ b o (live b o e).1 (kp' b o (live b o e).1 (kk b o e)))
  exact codeAny_compStart_list (loop _ rfl) (self 0 _ _ _ (W.frame 0 _ _ st fun b hb o e => old b o e) (loop _ rfl))
end
end Mine

end

section
open PySem PySem.W PyProof.Rows PyProof.Rows.LCg
namespace Mine
section
variable {C : Cx} {k : Nat} {env : Env} {ρ : List (Str × V)} {σ : List (Str × Bool × List V)} {P : Out → Prop}

theorem EvE.comp {target iter elt : Expr} {ifs : List Expr} {scope : Scope} {pos : Pos} {cl : List (Str × Addr)} {items : List Item} (f : Item → Option V) (hi : EvIter C k env ρ σ target iter items)
    (hclos : closureFor scope env = pure cl) (hfree : FreeIn env (compEnvC scope cl 0 env) (frees scope)) (helt : ∀ it ∈ items, CompElt C k env ρ scope cl target elt ifs it (f it)) (hsz : items.length ≤ sizeLine)
    (hcell : ∀ y ∈ scope.names, y.2 ≠ .cell) (hkind : scope.kind = .function) (hnames : ∀ y ∈ scope.names, y.2 = .local → scope.names.lookup y.1 = some .local)
    (hs : ∀ x, foldedSetIterable iter env x = pure x := by intro _; rfl) :
    EvE C k env ρ σ (.ListComp elt [⟨target, iter, ifs, 0⟩] scope pos) (.list (items.filterMap f)) := by
  intro A E X σa s Q rm hσ fe h
  rw [eval_ListComp]
  refine wpAny_comprehension_free (use := none) rfl hs hclos hkind hnames (hi A _ X σa s _ rm hσ fe fun s₁ I k₁ hI => comp_block (RR := fun acc B => compPost (model C.prog C.w) A E none Q acc B) rm fe k₁ hI hcell hkind hfree helt hsz ?_)
  intro D B h' tk m' ys nD nB hDB ns hl nX r _ kk
  have kp := kept_of k₁
  refine ⟨m', ns, fun h'' hs'' => ?_⟩
  have nB' : ∀ b o, s.heap.get? b = some o → b ≠ B := fun b o e q => by have := kp b o e; rw [q, nB] at this; cases this
  have k2 : Keeps s { s₁ with heap := h'', toks := tk } := by
    obtain ⟨h₁, t₁, rfl, _⟩ := k₁
    exact ⟨h'', tk, rfl, fun b o e => hs''.extBut b o (nB' b o e) (kk b o e)⟩
  obtain ⟨n, e⟩ := hl
  exact h _ _ k2 ⟨D, ys, rfl, nX, ⟨_, hs''.extBut D _ hDB e, rfl, n, rfl⟩, r.mono (fun b o _ sq e => hs''.extBut b o (fun q => ns_not_seq ns (q ▸ e) sq) e) fun _ _ n _ _ => n⟩

/-- a comprehension stored at once -/
theorem Ex.assign_comp {x : Str} {px : Pos} {target iter elt : Expr} {ifs : List Expr} {scope : Scope} {pos spos : Pos} {cl : List (Str × Addr)} {items : List Item} (f : Item → Option V) (hi : EvIter C k env ρ σ target iter items)
    (h : P (.next ((x, .list (items.filterMap f)) :: ρ) σ))
    (hclos : closureFor scope env = pure cl) (hfree : FreeIn env (compEnvC scope cl 0 env) (frees scope)) (helt : ∀ it ∈ items, CompElt C k env ρ scope cl target elt ifs it (f it)) (hsz : items.length ≤ sizeLine)
    (hcell : ∀ y ∈ scope.names, y.2 ≠ .cell) (hkind : scope.kind = .function) (hnames : ∀ y ∈ scope.names, y.2 = .local → scope.names.lookup y.1 = some .local)
    (hx : Kind env x := by first | exact .inl rfl | exact .inr ⟨rfl, rfl⟩) (ho : σ.all (fun p => p.1 != x) = true := by rfl)
    (hsw : swapsWith (.ListComp elt [⟨target, iter, ifs, 0⟩] scope pos) (some (.Name x px)) spos.line env = pure true := by rfl)
    (hs : ∀ x, foldedSetIterable iter env x = pure x := by intro _; rfl) :
    Ex C k env ρ σ (.Assign [.Name x px] (.ListComp elt [⟨target, iter, ifs, 0⟩] scope pos) spos) P := by
  intro A E s₀ X₀ σa s rm hσ S
  subst hσ
  have fe := S.fe
  have S' := S
  obtain ⟨m, cm, SM⟩ := S'
  rw [exec_Assign_Name_used _ _ _ _ hsw]
  refine wpAny_bind (wpAny_standAt (wpAny_bind ?_))
  show wpAny _ A (do let _ ← comprehension (.ListComp elt [⟨target, iter, ifs, 0⟩] scope pos) scope env _ (newList []) false (eval iter env) (some (PySem.assign (.Name x px) env))) _ _ s
  refine wpAny_bind (wpAny_mono (wpAny_comprehension_free (use := some (PySem.assign (.Name x px) env)) (Q := fun _ s' => Ends C env s₀ X₀ σa s P .next s') rfl hs hclos hkind hnames
    (hi A _ _ σa s _ rm rfl fe fun s₁ I k₁ hI => comp_block (RR := fun acc B => compPost (model C.prog C.w) A E (some (PySem.assign (.Name x px) env)) (fun _ s' => Ends C env s₀ X₀ σa s P .next s') acc B) rm fe k₁ hI hcell hkind hfree helt hsz ?_)) (fun _ s' hq => wpAny_pure (wpAny_pure hq)) fun _ _ e => e)
  intro D B h' tk m' ys nD nB hDB ns hl nX r _ kk
  have kp := kept_of k₁
  have nB' : ∀ b o, s.heap.get? b = some o → b ≠ B := fun b o e q => by have := kp b o e; rw [q, nB] at this; cases this
  have nBX : ¬ XX env X₀ σa B := fun q => by obtain ⟨o, e⟩ := fe.dom B q; exact nB' B o e rfl
  have k2 : Keeps s { s₁ with heap := h', toks := tk } := by
    obtain ⟨h₁, t₁, rfl, _⟩ := k₁
    exact ⟨h', tk, rfl, kk⟩
  show wpAny _ A (PySem.assign (.Name x px) env (.ref D)) _ _ _
  refine wpAny_assign_Name ((SM.grow k2).store (v := .list (items.filterMap f)) ⟨D, ys, rfl, nX, hl.isList, r⟩ hx (own_ne ho) fun s₂ S₂ ch => ?_)
  obtain ⟨m₂, cm₂, S₂⟩ := S₂
  have hfB : ¬ FX env B := fun q => nBX (q.elim (fun q => .inr (.inl q)) fun q => .inr (.inr (.inl q)))
  have ns₂ : s₂.heap.Ns B m' := ns.at' fun o e => ch.same B o hfB e
  refine ⟨m', ns₂, fun h'' hs'' => ?_⟩
  -- the comprehension's own frame goes
  have S₃ : StM C env s₀ X₀ ((x, .list (items.filterMap f)) :: ρ) σa m₂ cm₂ { s₂ with heap := h'' } := by
    have W := (S₂.widen (keeps_refl s₂) (fun _ => False) (fun _ q => q.elim) (fun _ q => q.elim))
    have base : ∀ b o, s₀.heap.get? b = some o → b ≠ B := fun b o e => nB' b o (kept_of SM.keeps b o e)
    obtain ⟨⟨⟨hh, tt, e⟩, ns0, keep, fresh⟩, cell, apart, above⟩ := S₂.call
    exact { top := S₂.top, ok := S₂.ok, apart := S₂.apart
            call := ⟨⟨⟨h'', s₂.toks, by rw [e]⟩, ns0.at' fun o e => hs''.extBut _ o (fun q => hfB (.inl q.symm)) e, fun b o e => hs''.extBut b o (base b o e) (keep b o e), fresh⟩, fun n c e => by
              obtain ⟨o, e1, e2⟩ := cell n c e
              exact ⟨o, hs''.extBut c o (fun q => hfB (.inr ⟨n, q ▸ e⟩)) e1, e2⟩, apart, above⟩
            vars := fun y v e => let ⟨val, hh, r⟩ := S₂.vars y v e; ⟨val, hh, r.mono (fun b o _ sq e => hs''.extBut b o (fun q => ns_not_seq ns₂ (q ▸ e) sq) e) fun _ _ n _ _ => n⟩
            owns := fun t ht => by
              obtain ⟨hh, f, its, l, r⟩ := S₂.owns t ht
              have nt : t.2.1 ≠ B := fun q => nBX (.inr (.inr (.inr ⟨t, ht, q⟩)))
              exact ⟨hh, f, its, ⟨l.1.extBut hs''.extBut nt, fun q => (l.2 q).extBut hs''.extBut nt⟩, r.mono (fun b o _ sq e => hs''.extBut b o (fun q => ns_not_seq ns₂ (q ▸ e) sq) e) fun _ _ n _ _ => n⟩
            x0 := fun a q => let ⟨o, e⟩ := S₂.x0 a q; ⟨o, hs''.extBut a o (fun q' => nBX (.inl (q' ▸ q))) e⟩ }
  refine ⟨_, σa, h, ⟨rfl, rfl, m₂, cm₂, S₃⟩, ⟨fun b o nb e => hs''.extBut b o (nB' b o e) (ch.fr.same b o nb (kk b o e)), fun b o e => ?_⟩, Sub.refl⟩
  obtain ⟨o', e'⟩ := ch.dom b o (kk b o e)
  exact ⟨o', hs''.extBut b o' (nB' b o e) e'⟩
end
end Mine

end

section
open PySem PySem.W PyProof.Rows PyProof.Rows.LCg
namespace Mine

theorem item_mono {X Y : Addr → Prop} {wr : List Addr} {hb h' h : Heap} (kp : Kept hb h') (fr : ∀ b ∈ wr, hb.get? b = none) (hk : ∀ b o, ¬ (X b ∨ b ∈ wr) → IsSeq o → h'.get? b = some o → h.get? b = some o)
    (hY : ∀ b, Y b → (X b ∨ b ∈ wr) ∨ h'.get? b = none) {x : V} {v : Value} (r : Rep X hb x v) : Rep Y h x v := by
  have nw : ∀ b o, hb.get? b = some o → b ∉ wr := fun b o e q => by rw [fr b q] at e; cases e
  refine r.mono (fun b o nb sq e => hk b o (fun q => q.elim nb (nw b o e)) sq (kp b o e)) fun b o nb sq e q => ?_
  rcases hY b q with (q | q) | q
  · exact nb q
  · exact nw b o e q
  · rw [kp b o e] at q; cases q

section
variable {C : Cx} {k : Nat} {env : Env} {ρ : List (Str × V)} {σ : List (Str × Bool × List V)}

theorem go_name {prog : Program} {w : World} {A : Around} {x : Str} {px : Pos} {it v : Value} {s : Shared} {Q : Unit → Shared → Prop} {E : Value → Shared → Prop} (h : Q () s) : wpAny (model prog w) A (letOwnedTupleGo (.Name x px) it v) Q E s :=
  wpAny_of_eq (show letOwnedTupleGo (.Name x px) it v = pure () from rfl) h

theorem turns_len {prog : Program} {w : World} {A : Around} {target : Expr} {I : Addr} {fp wr : List Addr} {n n' : Nat} {P Md : Nat → Value → Heap → Prop} {St : Nat → Heap → Prop} (h : n = n') (T : KTurns prog w A target I fp wr n P Md St) : KTurns prog w A target I fp wr n' P Md St := h ▸ T

theorem EvIter.list {x : Str} {px : Pos} {e : Expr} {xs : List V} (hv : EvE C k env ρ σ e (.list xs)) : EvIter C k env ρ σ (.Name x px) e (xs.map .one) := by
  intro A E X σa s Q rm hσ fe h
  refine hv A E X σa s _ rm hσ fe fun s₁ val k₁ r₁ => ?_
  obtain ⟨ax, us, rfl, nX, hL, hr⟩ := r₁
  have hlt : ax < s₁.heap.objs.size := by obtain ⟨_, e, _⟩ := hL; exact Heap.lt_size e
  refine wpAny_pyIter_list hL ?_
  have kp : Kept s₁.heap (s₁.heap.push { cls := .type "list_iterator", data := .fields #[.ref ax, .int 0 0] }) := fun b o e => Heap.get?_push_of_some _ e
  have k₂ := keeps_heap s₁ _ kp
  have nI : s₁.heap.get? s₁.heap.objs.size = none := Heap.get?_none_of_le (Nat.le_refl _)
  have hn : (xs.map Item.one).length = us.size := by rw [List.length_map, ← hr.length]; simp
  have W := Walks.list (prog := C.prog) (w := C.w) rm.handled s₁.heap.objs.size ax (Nat.ne_of_lt hlt) us
  have T := KTurns.ofWalks (target := .Name x px) W (fun i v s Q E _ hq => go_name hq)
  refine h _ _ (keeps_trans k₁ k₂) ⟨[s₁.heap.objs.size, ax], [s₁.heap.objs.size], _, _, _, turns_len hn.symm T, ⟨⟨_, Heap.get?_push_size _ rfl, rfl, rfl⟩, hL.push _⟩, ?_, ?_, ?_, ?_, ?_⟩
  · intro b hb
    rw [List.mem_singleton.mp hb]
    cases q : s.heap.get? s₁.heap.objs.size with
    | none => rfl
    | some o => have := kept_of k₁ _ _ q; rw [nI] at this; cases this
  · intro b hb
    rcases List.mem_cons.mp hb with rfl | hb
    · exact ⟨fresh_not (fe.keeps (kept_of k₁)).dom nI, _, Heap.get?_push_size _ rfl⟩
    · rw [List.mem_singleton.mp hb]
      obtain ⟨o, e, _⟩ := hL
      exact ⟨nX, o, kp _ _ e⟩
  · intro i v h it Y hit hP hk hY
    rw [List.getElem?_map] at hit
    obtain ⟨xv, hx, rfl⟩ := Option.map_eq_some_iff.mp hit
    obtain ⟨u, hu, ru⟩ := hr.get hx
    have : u = v := by rw [Array.getElem?_toList] at hu; exact Option.some.inj (hu.symm.trans hP)
    subst this
    exact item_mono kp (fun b hb => by rw [List.mem_singleton.mp hb]; exact nI) hk hY ru
  · intro i h st b hb
    rw [List.mem_singleton.mp hb]
    obtain ⟨⟨o, e, _⟩, _⟩ := st; exact ⟨o, e⟩
  · exact fun i s' Q E st hq => W.self i s' Q E st hq

theorem EvIter.tuple {x : Str} {px : Pos} {e : Expr} {xs : List V} (hv : EvE C k env ρ σ e (.tuple xs)) : EvIter C k env ρ σ (.Name x px) e (xs.map .one) := by
  intro A E X σa s Q rm hσ fe h
  refine hv A E X σa s _ rm hσ fe fun s₁ val k₁ r₁ => ?_
  obtain ⟨ax, us, rfl, nX, hL, hr⟩ := r₁
  have hlt : ax < s₁.heap.objs.size := by obtain ⟨_, e, _⟩ := hL; exact Heap.lt_size e
  refine wpAny_pyIter_tuple hL ?_
  have kp : Kept s₁.heap (s₁.heap.push { cls := .type "tuple_iterator", data := .fields #[.ref ax, .int 0 0] }) := fun b o e => Heap.get?_push_of_some _ e
  have k₂ := keeps_heap s₁ _ kp
  have nI : s₁.heap.get? s₁.heap.objs.size = none := Heap.get?_none_of_le (Nat.le_refl _)
  have hn : (xs.map Item.one).length = us.size := by rw [List.length_map, ← hr.length]; simp
  have W := Walks.tuple (prog := C.prog) (w := C.w) rm.handled s₁.heap.objs.size ax (Nat.ne_of_lt hlt) us
  have T := KTurns.ofWalks (target := .Name x px) W (fun i v s Q E _ hq => go_name hq)
  refine h _ _ (keeps_trans k₁ k₂) ⟨[s₁.heap.objs.size, ax], [s₁.heap.objs.size], _, _, _, turns_len hn.symm T, ⟨⟨_, Heap.get?_push_size _ rfl, rfl, rfl⟩, hL.push _⟩, ?_, ?_, ?_, ?_, ?_⟩
  · intro b hb
    rw [List.mem_singleton.mp hb]
    cases q : s.heap.get? s₁.heap.objs.size with
    | none => rfl
    | some o => have := kept_of k₁ _ _ q; rw [nI] at this; cases this
  · intro b hb
    rcases List.mem_cons.mp hb with rfl | hb
    · exact ⟨fresh_not (fe.keeps (kept_of k₁)).dom nI, _, Heap.get?_push_size _ rfl⟩
    · rw [List.mem_singleton.mp hb]
      obtain ⟨o, e, _⟩ := hL
      exact ⟨nX, o, kp _ _ e⟩
  · intro i v h it Y hit hP hk hY
    rw [List.getElem?_map] at hit
    obtain ⟨xv, hx, rfl⟩ := Option.map_eq_some_iff.mp hit
    obtain ⟨u, hu, ru⟩ := hr.get hx
    have : u = v := by rw [Array.getElem?_toList] at hu; exact Option.some.inj (hu.symm.trans hP)
    subst this
    exact item_mono kp (fun b hb => by rw [List.mem_singleton.mp hb]; exact nI) hk hY ru
  · intro i h st b hb
    rw [List.mem_singleton.mp hb]
    obtain ⟨⟨o, e, _⟩, _⟩ := st; exact ⟨o, e⟩
  · exact fun i s' Q E st hq => W.self i s' Q E st hq

/-- a range's items -/
def rangeItems (a c : Int) (n : Nat) : List Item := (List.range n).map fun i : Nat => Item.one (V.int (a + (i : Int) * c))

theorem range_iter {A : Around} {E : Value → Shared → Prop} {X : Addr → Prop} {σa : Owned} {s s₁ : Shared} {Q : Value → Shared → Prop} {x : Str} {px : Pos} {r : Addr} {a b c : Int} {t u v : Tok} {n : Nat} (rm : Room A k) (fe : Fe C env X ρ σa s.heap) (k₁ : Keeps s s₁)
    (hr : IsRange s₁.heap r a b c t u v) (hsm : Builtin.Range.small a b c = true) (hn : Builtin.Range.rangeSize a b c = (n : Int)) (h : ∀ s' I, Keeps s s' → Iterates C A (.Name x px) X (rangeItems a c n) s.heap I s' → Q (.ref I) s') :
    wpAny (model C.prog C.w) A (pyIter (.ref r)) Q E s₁ := by
  refine wpAny_pyIter_range hr hsm ?_
  have kp : Kept s₁.heap (s₁.heap.push { cls := .type "range_iterator", data := .fields #[rawInt a, rawInt (Builtin.Range.rangeSize a b c), rawInt c] }) := fun b o e => Heap.get?_push_of_some _ e
  have k₂ := keeps_heap s₁ _ kp
  have nI : s₁.heap.get? s₁.heap.objs.size = none := Heap.get?_none_of_le (Nat.le_refl _)
  have hlen : (rangeItems a c n).length = n := by unfold rangeItems; simp
  have W := Walks.range (prog := C.prog) (w := C.w) rm.handled s₁.heap.objs.size a c n
  have T := KTurns.ofWalks (target := .Name x px) W (fun i v s Q E _ hq => go_name hq)
  refine h _ _ (keeps_trans k₁ k₂) ⟨[s₁.heap.objs.size], [s₁.heap.objs.size], _, _, _, turns_len hlen.symm T, ?_, ?_, ?_, ?_, ?_, ?_⟩
  · show IsRangeIter _ _ _ _ _
    rw [hn]
    simpa using Heap.get?_push_size (o := { cls := .type "range_iterator", data := .fields #[rawInt a, rawInt (n : Int), rawInt c] }) s₁.heap rfl
  · intro b hb
    rw [List.mem_singleton.mp hb]
    cases q : s.heap.get? s₁.heap.objs.size with
    | none => rfl
    | some o => have := kept_of k₁ _ _ q; rw [nI] at this; cases this
  · intro b hb
    rw [List.mem_singleton.mp hb]
    exact ⟨fresh_not (fe.keeps (kept_of k₁)).dom nI, _, Heap.get?_push_size _ rfl⟩
  · intro i v h it Y hit hP hk hY
    unfold rangeItems at hit
    rw [List.getElem?_map] at hit
    obtain ⟨j, hj, rfl⟩ := Option.map_eq_some_iff.mp hit
    obtain ⟨t, rfl⟩ := hP
    obtain ⟨h1, h2⟩ := List.getElem?_eq_some_iff.mp hj
    rw [List.getElem_range] at h2
    subst h2
    exact ⟨t, rfl⟩
  · intro i h st b hb
    rw [List.mem_singleton.mp hb]
    exact ⟨_, st⟩
  · exact fun i s' Q E st hq => W.self i s' Q E st hq

theorem boot_range' : bootBuiltins "range" = some (.type "range") := PyProof.Rows.boot_range

theorem EvIter.range1 {x : Str} {px np pos : Pos} {e : Expr} {b : Int} {n : Nat} (hb : Blt C "range") (hv : EvE C k env ρ σ e (.int b)) (hsm : Builtin.Range.small 0 b 1 = true) (hn : Builtin.Range.rangeSize 0 b 1 = (n : Int))
    (hx : env.kindOf "range" = some .globalImplicit := by rfl) (hst : ((starEach [e] env).any (·.1)) = false := by rfl) (hse : starEach [e] env = (false, eval e env) :: starEach [] env := by rfl) :
    EvIter C k env ρ σ (.Name x px) (.Call (.Name "range" np) [e] [] pos) (rangeItems 0 1 n) := by
  intro A E X σa s Q rm hσ fe h
  refine wp_call (EvE.builtin hb boot_range' hx) callable_type (EvEs.cons hv EvEs.nil hse) ⟨by simp, hst⟩ rm hσ fe fun s₂ vals k₂ r₂ => ?_
  obtain ⟨v, r, rfl, ⟨t, rfl⟩, hr⟩ := r₂
  cases hr
  refine call_range_1 ?_
  exact range_iter rm fe (keeps_trans k₂ (keeps_both s₂ _ _ fun b o e => Heap.get?_push_of_some _ e)) (IsRange.new ..) hsm hn h

theorem EvIter.range2 {x : Str} {px np pos : Pos} {e1 e2 : Expr} {a b : Int} {n : Nat} (hb : Blt C "range") (h1 : EvE C k env ρ σ e1 (.int a)) (h2 : EvE C k env ρ σ e2 (.int b)) (hsm : Builtin.Range.small a b 1 = true) (hn : Builtin.Range.rangeSize a b 1 = (n : Int))
    (hx : env.kindOf "range" = some .globalImplicit := by rfl) (hst : ((starEach [e1, e2] env).any (·.1)) = false := by rfl) (hse : starEach [e1, e2] env = (false, eval e1 env) :: starEach [e2] env := by rfl) (hse' : starEach [e2] env = (false, eval e2 env) :: starEach [] env := by rfl) :
    EvIter C k env ρ σ (.Name x px) (.Call (.Name "range" np) [e1, e2] [] pos) (rangeItems a 1 n) := by
  intro A E X σa s Q rm hσ fe h
  refine wp_call (EvE.builtin hb boot_range' hx) callable_type (EvEs.cons h1 (EvEs.cons h2 EvEs.nil hse') hse) ⟨by simp, hst⟩ rm hσ fe fun s₂ vals k₂ r₂ => ?_
  obtain ⟨v, r, rfl, ⟨t, rfl⟩, v', r', rfl, ⟨u, rfl⟩, hr⟩ := r₂
  cases hr
  refine call_range_2 ?_
  exact range_iter rm fe (keeps_trans k₂ (keeps_both s₂ _ _ fun b o e => Heap.get?_push_of_some _ e)) (IsRange.new ..) hsm hn h

theorem EvIter.range3 {x : Str} {px np pos : Pos} {e1 e2 e3 : Expr} {a b c : Int} {n : Nat} (hb : Blt C "range") (h1 : EvE C k env ρ σ e1 (.int a)) (h2 : EvE C k env ρ σ e2 (.int b)) (h3 : EvE C k env ρ σ e3 (.int c)) (hc : c ≠ 0) (hcs : c.natAbs < 1073741824) (hsm : Builtin.Range.small a b c = true) (hn : Builtin.Range.rangeSize a b c = (n : Int))
    (hx : env.kindOf "range" = some .globalImplicit := by rfl) (hst : ((starEach [e1, e2, e3] env).any (·.1)) = false := by rfl) (hse : starEach [e1, e2, e3] env = (false, eval e1 env) :: starEach [e2, e3] env := by rfl) (hse' : starEach [e2, e3] env = (false, eval e2 env) :: starEach [e3] env := by rfl)
    (hse'' : starEach [e3] env = (false, eval e3 env) :: starEach [] env := by rfl) :
    EvIter C k env ρ σ (.Name x px) (.Call (.Name "range" np) [e1, e2, e3] [] pos) (rangeItems a c n) := by
  intro A E X σa s Q rm hσ fe h
  refine wp_call (EvE.builtin hb boot_range' hx) callable_type (EvEs.cons h1 (EvEs.cons h2 (EvEs.cons h3 EvEs.nil hse'') hse') hse) ⟨by simp, hst⟩ rm hσ fe fun s₂ vals k₂ r₂ => ?_
  obtain ⟨v, r, rfl, ⟨t, rfl⟩, v', r', rfl, ⟨u, rfl⟩, v'', r'', rfl, ⟨u', rfl⟩, hr⟩ := r₂
  cases hr
  refine call_range_3 hc ?_ (.inl (PyProof.noPylong_small hcs))
  exact range_iter rm fe (keeps_trans k₂ (keeps_both s₂ _ _ fun b o e => Heap.get?_push_of_some _ e)) (IsRange.new ..) hsm hn h
end
end Mine

end

section
open PySem PySem.W PyProof.Rows PyProof.Rows.LCg
namespace Mine

def zipItems (xs ys : List V) : List Item := (xs.zip ys).map fun p => .pair p.1 p.2
/-! zip over two iterators that each step through a row -/
structure Steps (prog : Program) (w : World) (A : Around) (i l : Addr) (xs : Array Value) (P : Nat → Heap → Prop) : Prop where
  at' : ∀ k h h', P k h → (∀ o, h.get? i = some o → h'.get? i = some o) → (∀ o, h.get? l = some o → h'.get? l = some o) → P k h'
  has : ∀ k h, P k h → ∃ o, h.get? i = some o
  item : ∀ k (s : Shared) x (Q : Value → Shared → Prop) E, P k s.heap → xs[k]? = some x → (∀ h', P (k + 1) h' → Heap.SameBut i s.heap h' → Q x { s with heap := h' }) → wpAny (model prog w) A (Builtin.SmallTypes.nextOf (.ref i)) Q E s
  stop : ∀ k (s : Shared) (Q : Value → Shared → Prop) E, P k s.heap → xs[k]? = none → (∀ h' e, Heap.ExtBut i s.heap h' → (∃ o, h'.get? e = some o ∧ o.cls = .type "StopIteration") → E (.ref e) { s with heap := h' }) → wpAny (model prog w) A (Builtin.SmallTypes.nextOf (.ref i)) Q E s

section
variable {prog : Program} {w : World} {A : Around} {E : Value → Shared → Prop} {s : Shared}

theorem Steps.list (hh : A.handled = none) {i l : Addr} (hne : l ≠ i) (xs : Array Value) : Steps prog w A i l xs (fun k h => h.IsListIter i l k ∧ h.IsList l xs) where
  at' := fun k h h' p e1 e2 => ⟨p.1.at e1, p.2.at e2⟩
  has := fun k h p => let ⟨o, e, _⟩ := p.1; ⟨o, e⟩
  item := fun k s x Q E p hx hq => wpAny_nextOf_list_item p.1 p.2 hx fun h' h1 hs => hq h' ⟨h1, p.2.extBut hs.extBut hne⟩ hs
  stop := fun k s Q E p hx hq => wpAny_nextOf_list_end hh p.1 p.2 hx hq

theorem nextOf_tuple_item {it t : Addr} {i : Nat} {items : Array Value} {x : Value} {Q : Value → Shared → Prop} (hit : s.heap.IsTupleIter it t i) (ht : s.heap.IsTuple t items) (hx : items[i]? = some x)
    (hQ : ∀ h', h'.IsTupleIter it t (i + 1) → Heap.SameBut it s.heap h' → Q x { s with heap := h' }) : wpAny (model prog w) A (Builtin.SmallTypes.nextOf (.ref it)) Q E s := by
  obtain ⟨o, ho, hc, hd⟩ := id hit
  obtain ⟨ol, hol, _, nl, hdl⟩ := ht
  unfold Builtin.SmallTypes.nextOf
  refine wpAny_bind (wpAny_callSpecial?_slot (name := Str.ofString "__next__") hit.typeIs F.slot_tuple_iterator_next (wpAny_call_entry F.slot_tuple_iterator_next hit.typeIs F.entry_tuple_iterator_next ?_ (F.args_tuple_iterator_next_1 _)))
  show wpAny _ _ (field (.ref it) 0 >>= _) _ _ s
  refine wpAny_bind (wpAny_field ho hd (x := .ref t) rfl ?_)
  show wpAny _ _ (if (Value.ref t == Value.none) = true then _ else _) _ _ s
  rw [if_neg (show ¬ ((Value.ref t == Value.none) = true) from Bool.false_ne_true)]
  show wpAny _ _ (field (.ref it) 1 >>= _) _ _ s
  refine wpAny_bind (wpAny_field ho hd (x := .int i 0) rfl ?_)
  show wpAny _ _ (seqItems? (.ref t) >>= _) _ _ s
  refine wpAny_bind (wpAny_seqItems hol hdl ?_)
  simp only [Int.toNat_natCast, hx]
  refine wpAny_bind (wpAny_setField ho hd (by simp) (wpAny_pure ⟨x, rfl, wpAny_pure (hQ _ ?_ (Heap.SameBut.update ..))⟩))
  exact ⟨_, Heap.get?_update_self _ ho (Obj.isFreed_of_fields (Obj.data_mapFields hd _)), (Obj.cls_mapFields ..).trans hc, by rw [Obj.data_mapFields hd]; simp [rawInt]⟩

theorem nextOf_tuple_end {it t : Addr} {i : Nat} {items : Array Value} {Q : Value → Shared → Prop} (hh : A.handled = none) (hit : s.heap.IsTupleIter it t i) (ht : s.heap.IsTuple t items) (hx : items[i]? = none)
    (hE : ∀ h' e, Heap.ExtBut it s.heap h' → (∃ o, h'.get? e = some o ∧ o.cls = .type "StopIteration") → E (.ref e) { s with heap := h' }) : wpAny (model prog w) A (Builtin.SmallTypes.nextOf (.ref it)) Q E s := by
  obtain ⟨o, ho, hc, hd⟩ := id hit
  obtain ⟨ol, hol, _, nl, hdl⟩ := ht
  unfold Builtin.SmallTypes.nextOf
  refine wpAny_bind (wpAny_callSpecial?_slot (name := Str.ofString "__next__") hit.typeIs F.slot_tuple_iterator_next (wpAny_call_entry F.slot_tuple_iterator_next hit.typeIs F.entry_tuple_iterator_next ?_ (F.args_tuple_iterator_next_1 _)))
  show wpAny _ _ (field (.ref it) 0 >>= _) _ _ s
  refine wpAny_bind (wpAny_field ho hd (x := .ref t) rfl ?_)
  show wpAny _ _ (if (Value.ref t == Value.none) = true then _ else _) _ _ s
  rw [if_neg (show ¬ ((Value.ref t == Value.none) = true) from Bool.false_ne_true)]
  show wpAny _ _ (field (.ref it) 1 >>= _) _ _ s
  refine wpAny_bind (wpAny_field ho hd (x := .int i 0) rfl ?_)
  show wpAny _ _ (seqItems? (.ref t) >>= _) _ _ s
  refine wpAny_bind (wpAny_seqItems hol hdl ?_)
  simp only [Int.toNat_natCast, hx]
  refine wpAny_bind (wpAny_rule (wpAny_bind (wpAny_setField ho hd (by simp) ?_)))
  show wpAny _ _ (newExc (.type "StopIteration") [] >>= _) _ _ _
  refine wpAny_bind ?_
  simp only [newExc, newTuple]
  refine wpAny_bind (wpAny_newObj_type ?_ (by size_fits))
  refine wpAny_bind (m := firstArgMember _ _) (wpAny_of_eq (a := Value.none) (by first | rfl | (simp only [firstArgMember]; rfl)) ?_)
  refine wpAny_newObj_type ?_ (by size_fits)
  simp only [raiseNew]
  refine wpAny_bind (wpAny_handled ?_)
  first | rw [show A.in1.handled = none from hh] | rw [hh]
  refine wpAny_bind (wpAny_pure (wpAny_throw ?_))
  exact hE _ _ (((Heap.SameBut.update ..).extBut.push _).push _) ⟨_, Heap.get?_push_size _ rfl, rfl⟩

theorem Steps.tuple (hh : A.handled = none) {i t : Addr} (hne : t ≠ i) (xs : Array Value) : Steps prog w A i t xs (fun k h => h.IsTupleIter i t k ∧ h.IsTuple t xs) where
  at' := fun k h h' p e1 e2 => ⟨p.1.at e1, let ⟨o, ho, r⟩ := p.2; ⟨o, e2 o ho, r⟩⟩
  has := fun k h p => let ⟨o, e, _⟩ := p.1; ⟨o, e⟩
  item := fun k s x Q E p hx hq => nextOf_tuple_item p.1 p.2 hx fun h' h1 hs => hq h' ⟨h1, p.2.extBut hs.extBut hne⟩ hs
  stop := fun k s Q E p hx hq => nextOf_tuple_end hh p.1 p.2 hx hq

variable {z TI TO i1 i2 l1 l2 : Addr} {xs ys : Array Value} {P1 P2 : Nat → Heap → Prop}

theorem Steps.ext {i l c : Addr} {xs : Array Value} {P : Nat → Heap → Prop} (S : Steps prog w A i l xs P) {k : Nat} {h h' : Heap} (p : P k h) (hs : Heap.ExtBut c h h') (n1 : i ≠ c) (n2 : l ≠ c) : P k h' := S.at' k h h' p (fun o e => hs i o n1 e) fun o e => hs l o n2 e

theorem zipS_next_item {a b x y : Value} {k1 k2 : Nat} {Q : Value → Shared → Prop} (S1 : Steps prog w A i1 l1 xs P1) (S2 : Steps prog w A i2 l2 ys P2) (D : ZipApart z TI TO i1 i2 l1 l2)
    (hz : IsZip s.heap z TI TO .none) (hTI : IsPair s.heap TI (.ref i1) (.ref i2)) (hTO : IsPair s.heap TO a b) (h1 : P1 k1 s.heap) (h2 : P2 k2 s.heap) (hx : xs[k1]? = some x) (hy : ys[k2]? = some y)
    (hQ : ∀ h', IsZip h' z TI TO (rawInt s.heap.objs.size) → IsPair h' TO x y → P1 (k1 + 1) h' → P2 (k2 + 1) h' → IsPair h' s.heap.objs.size x y →
      (∀ c o, c ≠ z → c ≠ TO → c ≠ i1 → c ≠ i2 → s.heap.get? c = some o → h'.get? c = some o) → Q (.ref s.heap.objs.size) { s with heap := h' }) :
    wpAny (model prog w) A (Builtin.«zip.__next__» ⟨[.ref z], []⟩) (fun fin s' => ∃ v, fin = .done (.ret v) ∧ Q v s') E s := by
  show wpAny _ _ (field (.ref z) 2 >>= _) _ _ _
  refine wpAny_bind (wpAny_field hz rfl (x := .bool false) rfl ?_)
  show wpAny _ _ (field (.ref z) 3 >>= _) _ _ _
  refine wpAny_bind (wpAny_field hz rfl (x := .ref TI) rfl ?_)
  refine wpAny_bind (wpAny_seqItems hTI rfl ?_)
  show wpAny _ _ (Builtin.SmallTypes.ownedTupleIsFree (.ref z) >>= _) _ _ _
  refine wpAny_bind ?_
  unfold Builtin.SmallTypes.ownedTupleIsFree
  refine wpAny_bind (wpAny_field hz rfl (x := .none) rfl (wpAny_pure ?_))
  simp only [if_true]
  refine wpAny_bind (wpAny_rule ?_)
  refine wpAny_bind (wpAny_field hz rfl (x := .ref TO) rfl ?_)
  refine wpAny_bind (wpAny_setField_rec hz (by simp) fun h₁ hz₁ hs₁ => ?_)
  replace hz₁ : IsZip h₁ z TI TO .ellipsis := hz₁
  refine wpAny_bind ?_
  simp only [List.zipIdx_cons, List.zipIdx_nil, List.forIn_cons, List.forIn_nil]
  refine wpAny_bind (wpAny_bind (wpAny_onRaise ?_))
  show wpAny _ _ (Builtin.SmallTypes.nextOf (.ref i1) >>= _) _ _ _
  refine wpAny_bind (S1.item k1 _ x _ _ (S1.ext h1 hs₁.extBut D.i1z D.l1z) hx fun h₂ h1₂ hs₂ => wpAny_pure ?_)
  have hTO₂ : IsPair h₂ TO a b := hs₂.extBut _ _ D.TOi1 (hs₁.extBut _ _ D.TOz hTO)
  refine wpAny_bind (wpAny_seqItems hTO₂ rfl ?_)
  refine wpAny_bind (wpAny_updateSeq_pair hTO₂ fun h₃ hTO₃ hs₃ => ?_)
  replace hTO₃ : IsPair h₃ TO x b := hTO₃
  refine wpAny_bind (wpAny_letGo (wpAny_pure ?_))
  refine wpAny_bind (wpAny_bind (wpAny_onRaise ?_))
  show wpAny _ _ (Builtin.SmallTypes.nextOf (.ref i2) >>= _) _ _ _
  refine wpAny_bind (S2.item k2 _ y _ _ (S2.ext (S2.ext (S2.ext h2 hs₁.extBut D.i2z D.l2z) hs₂.extBut D.i12.symm D.l2i1) hs₃.extBut D.TOi2.symm D.l2TO) hy fun h₄ h2₄ hs₄ => wpAny_pure ?_)
  have hTO₄ : IsPair h₄ TO x b := hs₄.extBut _ _ D.TOi2 hTO₃
  refine wpAny_bind (wpAny_seqItems hTO₄ rfl ?_)
  refine wpAny_bind (wpAny_updateSeq_pair hTO₄ fun h₅ hTO₅ hs₅ => ?_)
  replace hTO₅ : IsPair h₅ TO x y := hTO₅
  refine wpAny_bind (wpAny_letGo (wpAny_pure (wpAny_pure ?_)))
  refine wpAny_bind (wpAny_seqItems hTO₅ rfl ?_)
  refine wpAny_bind (wpAny_newTuple ?_)
  have hsz : h₅.objs.size = s.heap.objs.size := by rw [hs₅.1, hs₄.1, hs₃.1, hs₂.1, hs₁.1]
  have hz₅ : IsZip h₅ z TI TO .ellipsis := hs₅.extBut _ _ D.TOz.symm (hs₄.extBut _ _ D.i2z.symm (hs₃.extBut _ _ D.TOz.symm (hs₂.extBut _ _ D.i1z.symm hz₁)))
  have hk₅ : ∀ c o, c ≠ z → c ≠ TO → c ≠ i1 → c ≠ i2 → s.heap.get? c = some o → h₅.get? c = some o := fun c o c1 c2 c3 c4 e =>
    hs₅.extBut _ _ c2 (hs₄.extBut _ _ c4 (hs₃.extBut _ _ c2 (hs₂.extBut _ _ c3 (hs₁.extBut _ _ c1 e))))
  have h1₅ : P1 (k1 + 1) h₅ := S1.ext (S1.ext (S1.ext h1₂ hs₃.extBut D.TOi1.symm D.l1TO) hs₄.extBut D.i12 D.l1i2) hs₅.extBut D.TOi1.symm D.l1TO
  have h2₅ : P2 (k2 + 1) h₅ := S2.ext h2₄ hs₅.extBut D.TOi2.symm D.l2TO
  have hzlt : z < h₅.objs.size := Heap.lt_size hz₅
  show wpAny _ _ (Builtin.SmallTypes.ownedTupleHandOut (.ref z) (.ref h₅.objs.size) >>= _) _ _ _
  refine wpAny_bind ?_
  unfold Builtin.SmallTypes.ownedTupleHandOut
  have hz₆ : IsZip (h₅.push { cls := .type "tuple", data := .seq #[x, y] }) z TI TO .ellipsis := Heap.get?_push_of_some _ hz₅
  refine wpAny_bind (wpAny_setField_rec hz₆ (by simp) fun h₇ hz₇ hs₇ => ?_)
  replace hz₇ : IsZip h₇ z TI TO (rawInt h₅.objs.size) := hz₇
  refine wpAny_setField_rec hz₇ (by simp) fun h₈ hz₈ hs₈ => ?_
  replace hz₈ : IsZip h₈ z TI TO (rawInt h₅.objs.size) := hz₈
  have up : ∀ c o, c ≠ z → h₅.get? c = some o → h₈.get? c = some o := fun c o c1 e => hs₈.extBut _ _ c1 (hs₇.extBut _ _ c1 (Heap.get?_push_of_some _ e))
  have hT₈ : IsPair h₈ h₅.objs.size x y := hs₈.extBut _ _ (Nat.ne_of_gt hzlt) (hs₇.extBut _ _ (Nat.ne_of_gt hzlt) (Heap.get?_push_size _ rfl))
  rw [hsz] at hz₈ hT₈
  refine wpAny_pure ⟨_, rfl, ?_⟩
  show Q (.ref h₅.objs.size) _
  rw [hsz]
  exact hQ h₈ hz₈ (up _ _ D.TOz hTO₅) (S1.at' _ _ _ h1₅ (fun o e => up _ o D.i1z e) fun o e => up _ o D.l1z e) (S2.at' _ _ _ h2₅ (fun o e => up _ o D.i2z e) fun o e => up _ o D.l2z e) hT₈ fun c o c1 c2 c3 c4 e => up c o c1 (hk₅ c o c1 c2 c3 c4 e)

theorem zipS_next_end {a b : Value} {k1 k2 : Nat} {Q : Fin → Shared → Prop} (S1 : Steps prog w A i1 l1 xs P1) (S2 : Steps prog w A i2 l2 ys P2) (D : ZipApart z TI TO i1 i2 l1 l2)
    (hz : IsZip s.heap z TI TO .none) (hTI : IsPair s.heap TI (.ref i1) (.ref i2)) (hTO : IsPair s.heap TO a b) (h1 : P1 k1 s.heap) (h2 : P2 k2 s.heap) (hend : xs[k1]? = none)
    (hE : ∀ h' e, (∀ c o, c ≠ z → c ≠ TO → c ≠ i1 → c ≠ i2 → s.heap.get? c = some o → h'.get? c = some o) → (∃ o, h'.get? e = some o ∧ o.cls = .type "StopIteration") → E (.ref e) { s with heap := h' }) :
    wpAny (model prog w) A (Builtin.«zip.__next__» ⟨[.ref z], []⟩) Q E s := by
  show wpAny _ _ (field (.ref z) 2 >>= _) _ _ _
  refine wpAny_bind (wpAny_field hz rfl (x := .bool false) rfl ?_)
  show wpAny _ _ (field (.ref z) 3 >>= _) _ _ _
  refine wpAny_bind (wpAny_field hz rfl (x := .ref TI) rfl ?_)
  refine wpAny_bind (wpAny_seqItems hTI rfl ?_)
  show wpAny _ _ (Builtin.SmallTypes.ownedTupleIsFree (.ref z) >>= _) _ _ _
  refine wpAny_bind ?_
  unfold Builtin.SmallTypes.ownedTupleIsFree
  refine wpAny_bind (wpAny_field hz rfl (x := .none) rfl (wpAny_pure ?_))
  simp only [if_true]
  refine wpAny_bind (wpAny_rule ?_)
  refine wpAny_bind (wpAny_field hz rfl (x := .ref TO) rfl ?_)
  refine wpAny_bind (wpAny_setField_rec hz (by simp) fun h₁ hz₁ hs₁ => ?_)
  replace hz₁ : IsZip h₁ z TI TO .ellipsis := hz₁
  refine wpAny_bind ?_
  simp only [List.zipIdx_cons, List.zipIdx_nil, List.forIn_cons, List.forIn_nil]
  refine wpAny_bind (wpAny_bind (wpAny_onRaise ?_))
  show wpAny _ _ (Builtin.SmallTypes.nextOf (.ref i1) >>= _) _ _ _
  refine wpAny_bind (S1.stop k1 _ _ _ (S1.ext h1 hs₁.extBut D.i1z D.l1z) hend fun h₂ e hs₂ he => ?_)
  obtain ⟨oe, hoe, hce⟩ := he
  have hz₂ : IsZip h₂ z TI TO .ellipsis := hs₂ _ _ D.i1z.symm hz₁
  have hez : e ≠ z := fun x => by subst x; rw [hz₂] at hoe; cases hoe; simp at hce
  refine wpAny_setField_rec hz₂ (by simp) fun h₃ _ hs₃ => hE h₃ e (fun c o c1 _ c3 _ x => hs₃.extBut _ _ c1 (hs₂ _ _ c3 (hs₁.extBut _ _ c1 x))) ⟨oe, hs₃.extBut _ _ hez hoe, hce⟩

theorem pyNext_zipS_item {a b x y : Value} {k1 k2 : Nat} {Q : Option Value → Shared → Prop} (hh : A.handled = none) (S1 : ∀ A : Around, A.handled = none → Steps prog w A i1 l1 xs P1) (S2 : ∀ A : Around, A.handled = none → Steps prog w A i2 l2 ys P2) (D : ZipApart z TI TO i1 i2 l1 l2)
    (hz : IsZip s.heap z TI TO .none) (hTI : IsPair s.heap TI (.ref i1) (.ref i2)) (hTO : IsPair s.heap TO a b) (h1 : P1 k1 s.heap) (h2 : P2 k2 s.heap) (hx : xs[k1]? = some x) (hy : ys[k2]? = some y)
    (hQ : ∀ h', IsZip h' z TI TO (rawInt s.heap.objs.size) → IsPair h' TO x y → P1 (k1 + 1) h' → P2 (k2 + 1) h' → IsPair h' s.heap.objs.size x y →
      (∀ c o, c ≠ z → c ≠ TO → c ≠ i1 → c ≠ i2 → s.heap.get? c = some o → h'.get? c = some o) → Q (some (.ref s.heap.objs.size)) { s with heap := h' }) :
    wpAny (model prog w) A (pyNext (.ref z)) Q E s := by
  have hT : s.TypeIs (.ref z) "zip" := ⟨_, hz, rfl⟩
  unfold pyNext
  exact wpAny_bind (wpAny_attempt (wpAny_callSpecial?_slot (name := Str.ofString "__next__") hT F.slot_zip_next
    (wpAny_call_entry F.slot_zip_next hT F.entry_zip_next
      (zipS_next_item (S1 _ hh) (S2 _ hh) D hz hTI hTO h1 h2 hx hy fun h' a1 a2 a3 a4 a5 a6 => wpAny_pure (hQ h' a1 a2 a3 a4 a5 a6)) (F.args_zip_next_1 _))))

theorem pyNext_zipS_end {a b : Value} {k1 k2 : Nat} {Q : Option Value → Shared → Prop} (hh : A.handled = none) (S1 : ∀ A : Around, A.handled = none → Steps prog w A i1 l1 xs P1) (S2 : ∀ A : Around, A.handled = none → Steps prog w A i2 l2 ys P2) (D : ZipApart z TI TO i1 i2 l1 l2)
    (hz : IsZip s.heap z TI TO .none) (hTI : IsPair s.heap TI (.ref i1) (.ref i2)) (hTO : IsPair s.heap TO a b) (h1 : P1 k1 s.heap) (h2 : P2 k2 s.heap) (hend : xs[k1]? = none)
    (hQ : ∀ h', (∀ c o, c ≠ z → c ≠ TO → c ≠ i1 → c ≠ i2 → s.heap.get? c = some o → h'.get? c = some o) → Q none { s with heap := h' }) :
    wpAny (model prog w) A (pyNext (.ref z)) Q E s := by
  have hT : s.TypeIs (.ref z) "zip" := ⟨_, hz, rfl⟩
  unfold pyNext
  refine wpAny_bind (wpAny_attempt (wpAny_callSpecial?_slot (name := Str.ofString "__next__") hT F.slot_zip_next
    (wpAny_call_entry F.slot_zip_next hT F.entry_zip_next (zipS_next_end (S1 _ hh) (S2 _ hh) D hz hTI hTO h1 h2 hend fun h' e hk he => ?_) (F.args_zip_next_1 _))))
  obtain ⟨o, ho, hc⟩ := he
  refine wpAny_bind (wpAny_isInstance (T := "StopIteration") (b := true) ⟨o, ho, hc⟩ isSubtype_stop ?_)
  exact wpAny_pure (hQ _ hk)

theorem walk_zipS (hh : A.handled = none) (S1 : ∀ A : Around, A.handled = none → Steps prog w A i1 l1 xs P1) (S2 : ∀ A : Around, A.handled = none → Steps prog w A i2 l2 ys P2) (D : ZipApart z TI TO i1 i2 l1 l2) (hle : xs.size ≤ ys.size) :
    WalksT prog w A z [z, TI, TO, i1, i2, l1, l2] [z, TO, i1, i2] xs.size
      (fun i vals => ∃ x y, xs[i]? = some x ∧ ys[i]? = some y ∧ vals = #[x, y])
      (fun i h => IsZip h z TI TO .none ∧ IsPair h TI (.ref i1) (.ref i2) ∧ (∃ a b, IsPair h TO a b) ∧ P1 i h ∧ P2 i h)
      (fun i T h => IsZip h z TI TO (rawInt T) ∧ IsPair h TI (.ref i1) (.ref i2) ∧ (∃ a b, IsPair h TO a b) ∧ P1 (i + 1) h ∧ P2 (i + 1) h ∧ T ≠ z ∧ T ≠ TO ∧ T ≠ i1 ∧ T ≠ i2) where
  sub := fun c hc => by simp at hc ⊢; rcases hc with rfl | rfl | rfl | rfl <;> simp
  frame := fun i h h' hst hk => by
    obtain ⟨hz, hTI, ⟨a, b, hTO⟩, h1, h2⟩ := hst
    exact ⟨hk z (by simp) _ hz, hk TI (by simp) _ hTI, ⟨a, b, hk TO (by simp) _ hTO⟩, (S1 A hh).at' _ _ _ h1 (fun o e => hk i1 (by simp) o e) fun o e => hk l1 (by simp) o e,
      (S2 A hh).at' _ _ _ h2 (fun o e => hk i2 (by simp) o e) fun o e => hk l2 (by simp) o e⟩
  item := fun i s Q E hi hst hQ => by
    obtain ⟨hz, hTI, ⟨a, b, hTO⟩, h1, h2⟩ := hst
    have hiy : i < ys.size := Nat.lt_of_lt_of_le hi hle
    refine pyNext_zipS_item hh S1 S2 D hz hTI hTO h1 h2 (Array.getElem?_eq_getElem hi) (Array.getElem?_eq_getElem hiy) fun h' a1 a2 a3 a4 a5 hk => ?_
    have lt : ∀ {c o}, s.heap.get? c = some o → s.heap.objs.size ≠ c := fun e => Nat.ne_of_gt (Heap.lt_size e)
    exact hQ s.heap.objs.size #[xs[i], ys[i]] h' s.toks ⟨_, _, Array.getElem?_eq_getElem hi, Array.getElem?_eq_getElem hiy, rfl⟩ (Nat.le_refl _) ⟨_, a5, rfl, _, rfl⟩
      ⟨a1, hk _ _ D.TIz D.TITO D.TIi1 D.TIi2 hTI, ⟨_, _, a2⟩, a3, a4, lt hz, lt hTO, (by obtain ⟨_, e⟩ := (S1 A hh).has _ _ h1; exact lt e), (by obtain ⟨_, e⟩ := (S2 A hh).has _ _ h2; exact lt e)⟩
      fun c o hc e => hk c o (fun x => hc (by simp [x])) (fun x => hc (by simp [x])) (fun x => hc (by simp [x])) (fun x => hc (by simp [x])) e
  go := fun elts k pos i T s Q E hm hQ => by
    obtain ⟨hz, hTI, ⟨a, b, hTO⟩, h1, h2, _⟩ := hm
    refine wpAny_letOwnedTupleGo_zip hz fun h' hz' hs' => hQ h' ⟨hz', hs'.extBut _ _ D.TIz hTI, ⟨a, b, hs'.extBut _ _ D.TOz hTO⟩, (S1 A hh).ext h1 hs'.extBut D.i1z D.l1z, (S2 A hh).ext h2 hs'.extBut D.i2z D.l2z⟩ fun c o hc e => hs'.extBut _ _ (fun x => hc (by simp [x])) e
  apart := fun i T h hm hT => by
    obtain ⟨_, _, _, _, _, t1, t2, t3, t4⟩ := hm
    simp at hT
    rcases hT with rfl | rfl | rfl | rfl
    · exact t1 rfl
    · exact t2 rfl
    · exact t3 rfl
    · exact t4 rfl
  done := fun s Q E hst hQ => by
    obtain ⟨hz, hTI, ⟨a, b, hTO⟩, h1, h2⟩ := hst
    exact pyNext_zipS_end hh S1 S2 D hz hTI hTO h1 h2 (Array.getElem?_eq_none (Nat.le_refl _)) fun h' hk => hQ h' s.toks fun c o hc e =>
      hk c o (fun x => hc (by simp [x])) (fun x => hc (by simp [x])) (fun x => hc (by simp [x])) (fun x => hc (by simp [x])) e
  self := fun i s Q E hst hQ => wpAny_pyIter_zip hst.1 hQ

abbrev zt1 (h : Heap) (t : Addr) : Heap := h.push { cls := .type "tuple_iterator", data := .fields #[.ref t, .int 0 0] }
abbrev zt2 (h : Heap) (t l : Addr) : Heap := (zt1 h t).push { cls := .type "list_iterator", data := .fields #[.ref l, .int 0 0] }
abbrev zt3 (h : Heap) (t l : Addr) : Heap := (zt2 h t l).push { cls := .type "tuple", data := .seq #[.ref h.objs.size, .ref (zt1 h t).objs.size] }
abbrev zt4 (h : Heap) (t l : Addr) : Heap := (zt3 h t l).push { cls := .type "tuple", data := .seq #[.none, .none] }
abbrev zt5 (h : Heap) (t l : Addr) : Heap := (zt4 h t l).push { cls := .type "zip", data := .fields #[.none, .bool false, .bool false, .ref (zt2 h t l).objs.size, .ref (zt3 h t l).objs.size] }

theorem meets_zip_tl (t l : Addr) (xs ys : Array Value) :
    Meets (Builtin.«zip.__new__» ⟨[.type "zip", .ref t, .ref l], []⟩) (fun _ R s => s.heap.IsTuple t xs ∧ s.heap.IsList l ys ∧
      R (.ok (.ret (.ref (zt4 s.heap t l).objs.size))) { s with heap := zt5 s.heap t l }) :=
  .of_wp fun prog w A R s h => by
    obtain ⟨hp, g, d, tk, os⟩ := s; obtain ⟨hl1, hl2, h⟩ := h
    have hsub := sub_zip
    have hL1 : Heap.IsTuple (Shared.heap ⟨hp, g, d, tk, os⟩) t xs := hl1
    have hL2 : Heap.IsList (Shared.heap ⟨hp.push { cls := .type "tuple_iterator", data := .fields #[.ref t, .int 0 0] }, g, d, tk, os⟩) l ys := Heap.IsList.push hl2 _
    wp_walk using wpAny_pyIter_tuple hL1, wpAny_pyIter_list hL2
    exact ⟨_, rfl, h⟩

theorem call_zip_tl {t l : Addr} {xs ys : Array Value} {Q : Value → Shared → Prop} (hl1 : s.heap.IsTuple t xs) (hl2 : s.heap.IsList l ys)
    (h : ∀ h', IsZip h' (s.heap.objs.size + 4) (s.heap.objs.size + 2) (s.heap.objs.size + 3) .none → IsPair h' (s.heap.objs.size + 2) (.ref s.heap.objs.size) (.ref (s.heap.objs.size + 1)) →
      IsPair h' (s.heap.objs.size + 3) .none .none → h'.IsTupleIter s.heap.objs.size t 0 → h'.IsListIter (s.heap.objs.size + 1) l 0 →
      (∀ c o, s.heap.get? c = some o → h'.get? c = some o) → Q (.ref (s.heap.objs.size + 4)) { s with heap := h' }) :
    wpAny (model prog w) A (call (.type "zip") [.ref t, .ref l]) Q E s := by
  refine callType_new F.called_zip (by decide) (F.typeCall_zip_2 _ _) (F.newCall_zip_2 _ _) (fun obj => F.args_object_init_3 obj _ _) F.entry_zip_new
    (meets_zip_tl t l xs ys) ⟨hl1, hl2, ?_⟩
  have z1 : (zt1 s.heap t).objs.size = s.heap.objs.size + 1 := Heap.size_push ..
  have z2 : (zt2 s.heap t l).objs.size = s.heap.objs.size + 2 := by rw [Heap.size_push, z1]
  have z3 : (zt3 s.heap t l).objs.size = s.heap.objs.size + 3 := by rw [Heap.size_push, z2]
  have z4 : (zt4 s.heap t l).objs.size = s.heap.objs.size + 4 := by rw [Heap.size_push, z3]
  have g5 : (zt5 s.heap t l).get? (zt4 s.heap t l).objs.size = some _ := Heap.get?_push_size _ rfl
  have g4 : (zt5 s.heap t l).get? (zt3 s.heap t l).objs.size = some _ := Heap.get?_push_of_some _ (Heap.get?_push_size _ rfl)
  have g3 : (zt5 s.heap t l).get? (zt2 s.heap t l).objs.size = some _ := Heap.get?_push_of_some _ (Heap.get?_push_of_some _ (Heap.get?_push_size _ rfl))
  have g2 : (zt5 s.heap t l).get? (zt1 s.heap t).objs.size = some _ := Heap.get?_push_of_some _ (Heap.get?_push_of_some _ (Heap.get?_push_of_some _ (Heap.get?_push_size _ rfl)))
  have g1 : (zt5 s.heap t l).get? s.heap.objs.size = some _ := Heap.get?_push_of_some _ (Heap.get?_push_of_some _ (Heap.get?_push_of_some _ (Heap.get?_push_of_some _ (Heap.get?_push_size _ rfl))))
  show _ ∧ _
  rw [z2, z3, z4] at g5
  rw [z1, z2] at g3
  rw [z3] at g4
  rw [z1] at g2
  rw [z4]
  exact ⟨⟨_, g5, rfl⟩, h _ g5 g3 g4 ⟨_, g1, rfl, rfl⟩ ⟨_, g2, rfl, rfl⟩ fun c o x =>
    Heap.get?_push_of_some _ (Heap.get?_push_of_some _ (Heap.get?_push_of_some _ (Heap.get?_push_of_some _ (Heap.get?_push_of_some _ x))))⟩
end


section
variable {C : Cx} {A : Around} {X : Addr → Prop}
theorem zip_iter {te : List Expr} {kk : Nat} {tp : Pos} {xs ys : List V} {s s₂ : Shared} {h' : Heap} {l1 l2 : Addr} {us ws : Array Value} {P1 P2 : Nat → Heap → Prop} (hh : A.handled = none) (k₂ : Keeps s s₂) (hk : ∀ c o, s₂.heap.get? c = some o → h'.get? c = some o) (dom : ∀ a, X a → ∃ o, s₂.heap.get? a = some o)
    (hz : IsZip h' (s₂.heap.objs.size + 4) (s₂.heap.objs.size + 2) (s₂.heap.objs.size + 3) .none) (hTI : IsPair h' (s₂.heap.objs.size + 2) (.ref s₂.heap.objs.size) (.ref (s₂.heap.objs.size + 1))) (hTO : IsPair h' (s₂.heap.objs.size + 3) .none .none)
    (S1 : ∀ A : Around, A.handled = none → Steps C.prog C.w A s₂.heap.objs.size l1 us P1) (S2 : ∀ A : Around, A.handled = none → Steps C.prog C.w A (s₂.heap.objs.size + 1) l2 ws P2) (p1 : P1 0 h') (p2 : P2 0 h')
    (hl1 : ∃ o, s₂.heap.get? l1 = some o) (hl2 : ∃ o, s₂.heap.get? l2 = some o) (nX1 : ¬ X l1) (nX2 : ¬ X l2) (hr1 : Reps X s₂.heap xs us.toList) (hr2 : Reps X s₂.heap ys ws.toList) (hlen : xs.length ≤ ys.length) :
    Iterates C A (.Tuple te kk tp) X (zipItems xs ys) s.heap (s₂.heap.objs.size + 4) { s₂ with heap := h' } := by
  have a1 : l1 < s₂.heap.objs.size := by obtain ⟨_, e⟩ := hl1; exact Heap.lt_size e
  have a2 : l2 < s₂.heap.objs.size := by obtain ⟨_, e⟩ := hl2; exact Heap.lt_size e
  have hsz1 : us.size = xs.length := by rw [← hr1.length]; simp
  have hsz2 : ws.size = ys.length := by rw [← hr2.length]; simp
  have W := (walk_zipS (prog := C.prog) (w := C.w) hh S1 S2 (zipApart_new a1 a2) (by omega)).toU
  have T := KTurns.ofWalksU (elts := te) (k := kk) (pos := tp) W
  have hn : (zipItems xs ys).length = us.size := by
    unfold zipItems
    rw [List.length_map, List.length_zip, hsz1]; omega
  have ge : ∀ b ∈ [s₂.heap.objs.size + 4, s₂.heap.objs.size + 3, s₂.heap.objs.size, s₂.heap.objs.size + 1], s₂.heap.objs.size ≤ b := fun b hb => by
    simp only [List.mem_cons, List.not_mem_nil, or_false] at hb
    rcases hb with rfl | rfl | rfl | rfl <;> omega
  have f1 : ∀ b ∈ [s₂.heap.objs.size + 4, s₂.heap.objs.size + 3, s₂.heap.objs.size, s₂.heap.objs.size + 1], s₂.heap.get? b = none := fun b hb => Heap.get?_none_of_le (ge b hb)
  have old : ∀ b, s₂.heap.objs.size ≤ b → s.heap.get? b = none := fun b hb => by
    cases q : s.heap.get? b with
    | none => rfl
    | some o => exact absurd (Heap.lt_size (kept_of k₂ _ _ q)) (Nat.not_lt.mpr hb)
  refine ⟨[s₂.heap.objs.size + 4, s₂.heap.objs.size + 2, s₂.heap.objs.size + 3, s₂.heap.objs.size, s₂.heap.objs.size + 1, l1, l2], [s₂.heap.objs.size + 4, s₂.heap.objs.size + 3, s₂.heap.objs.size, s₂.heap.objs.size + 1], _, _, _, turns_len hn.symm T,
    ⟨hz, hTI, ⟨_, _, hTO⟩, p1, p2⟩, fun b hb => old b (ge b hb), ?_, ?_, ?_, ?_⟩
  · intro b hb
    have lo : ∀ c, s₂.heap.objs.size ≤ c → ¬ X c := fun c hc => fresh_not dom (Heap.get?_none_of_le hc)
    simp only [List.mem_cons, List.not_mem_nil, or_false] at hb
    rcases hb with rfl | rfl | rfl | rfl | rfl | rfl | rfl
    · exact ⟨lo _ (by omega), _, hz⟩
    · exact ⟨lo _ (by omega), _, hTI⟩
    · exact ⟨lo _ (by omega), _, hTO⟩
    · obtain ⟨o, e⟩ := (S1 A hh).has _ _ p1; exact ⟨lo _ (by omega), o, e⟩
    · obtain ⟨o, e⟩ := (S2 A hh).has _ _ p2; exact ⟨lo _ (by omega), o, e⟩
    · obtain ⟨o, e⟩ := hl1; exact ⟨nX1, o, hk _ _ e⟩
    · obtain ⟨o, e⟩ := hl2; exact ⟨nX2, o, hk _ _ e⟩
  · intro i v h it Y hit' hP hk' hY
    obtain ⟨T', vs, rfl, ⟨x, y, hx', hy', rfl⟩, hT⟩ := hP
    unfold zipItems at hit'
    rw [List.getElem?_map] at hit'
    obtain ⟨p, hp, rfl⟩ := Option.map_eq_some_iff.mp hit'
    obtain ⟨p1, p2⟩ := p
    obtain ⟨hp1, hp2⟩ := List.getElem?_zip_eq_some.mp hp
    obtain ⟨u, hu, ru⟩ := hr1.get hp1
    obtain ⟨w, hw, rw'⟩ := hr2.get hp2
    have e1 : u = x := by rw [Array.getElem?_toList] at hu; exact Option.some.inj (hu.symm.trans hx')
    have e2 : w = y := by rw [Array.getElem?_toList] at hw; exact Option.some.inj (hw.symm.trans hy')
    subst e1 e2
    exact ⟨T', _, _, rfl, hT, item_mono hk f1 hk' hY ru, item_mono hk f1 hk' hY rw'⟩
  · intro i h st b hb
    obtain ⟨e1, _, ⟨a, b', e2⟩, q1, q2⟩ := st
    simp only [List.mem_cons, List.not_mem_nil, or_false] at hb
    rcases hb with rfl | rfl | rfl | rfl
    · exact ⟨_, e1⟩
    · exact ⟨_, e2⟩
    · exact (S1 A hh).has _ _ q1
    · exact (S2 A hh).has _ _ q2
  · exact fun i s' Q E st hq => W.self i s' Q E st hq
end
end Mine

end

section
open PySem PySem.W PyProof.Rows PyProof.Rows.LCg
namespace Mine
def enumItems (xs : List V) : List Item := xs.zipIdx.map fun p => .pair (.int (p.2 : Nat)) p.1

section
variable {C : Cx} {k : Nat} {env : Env} {ρ : List (Str × V)} {σ : List (Str × Bool × List V)}

theorem boot_enum' : bootBuiltins "enumerate" = some (.type "enumerate") := by decide +kernel
theorem boot_zip' : bootBuiltins "zip" = some (.type "zip") := by decide +kernel
theorem none_of_size {s s₁ : Shared} (k₁ : Keeps s s₁) {a : Addr} (h : s₁.heap.objs.size ≤ a) : s.heap.get? a = none := by
  cases q : s.heap.get? a with
  | none => rfl
  | some o => exact absurd (Heap.lt_size (kept_of k₁ _ _ q)) (Nat.not_lt.mpr h)

theorem EvIter.enum {te : List Expr} {kk : Nat} {tp np pos : Pos} {e : Expr} {xs : List V} (hb : Blt C "enumerate") (hv : EvE C k env ρ σ e (.list xs)) (hx : env.kindOf "enumerate" = some .globalImplicit := by rfl)
    (hst : ((starEach [e] env).any (·.1)) = false := by rfl) (hse : starEach [e] env = (false, eval e env) :: starEach [] env := by rfl) :
    EvIter C k env ρ σ (.Tuple te kk tp) (.Call (.Name "enumerate" np) [e] [] pos) (enumItems xs) := by
  intro A E X σa s Q rm hσ fe h
  refine wp_call (EvE.builtin hb boot_enum' hx) callable_type (EvEs.cons hv EvEs.nil hse) ⟨by simp, hst⟩ rm hσ fe fun s₂ vals k₂ r₂ => ?_
  obtain ⟨v, r, rfl, ⟨l, us, rfl, nX, hL, hr⟩, hr'⟩ := r₂
  cases hr'
  refine call_enumerate_list hL fun h' he hit hsz hk => ?_
  have hlt : l < s₂.heap.objs.size := by obtain ⟨_, e, _⟩ := hL; exact Heap.lt_size e
  have k₃ : Keeps s₂ { s₂ with heap := h' } := keeps_heap s₂ h' hk
  refine wpAny_pyIter_enum he ?_
  have W := (WalksT.enumerate (prog := C.prog) (w := C.w) rm.handled (s₂.heap.objs.size + 1) s₂.heap.objs.size l (Nat.succ_ne_self _) (Nat.ne_of_lt (Nat.lt_succ_of_lt hlt)) (Nat.ne_of_lt hlt) us).toU
  have T := KTurns.ofWalksU (elts := te) (k := kk) (pos := tp) W
  have hn : (enumItems xs).length = us.size := by unfold enumItems; rw [List.length_map, List.length_zipIdx, ← hr.length]; simp
  have f1 : ∀ b ∈ [s₂.heap.objs.size + 1, s₂.heap.objs.size], s₂.heap.get? b = none := fun b hb => by
    rcases List.mem_cons.mp hb with rfl | hb
    · exact Heap.get?_none_of_le (Nat.le_succ _)
    · rw [List.mem_singleton.mp hb]; exact Heap.get?_none_of_le (Nat.le_refl _)
  have f2 := fe.keeps (kept_of k₂)
  refine h _ _ (keeps_trans k₂ k₃) ⟨[s₂.heap.objs.size + 1, s₂.heap.objs.size, l], [s₂.heap.objs.size + 1, s₂.heap.objs.size], _, _, _, turns_len hn.symm T, ⟨⟨_, he⟩, hit, IsList.kept hk hL⟩, ?_, ?_, ?_, ?_, ?_⟩
  · intro b hb
    rcases List.mem_cons.mp hb with rfl | hb
    · exact none_of_size k₂ (Nat.le_succ _)
    · rw [List.mem_singleton.mp hb]; exact none_of_size k₂ (Nat.le_refl _)
  · intro b hb
    rcases List.mem_cons.mp hb with rfl | hb
    · exact ⟨fresh_not f2.dom (f1 _ List.mem_cons_self), _, he⟩
    · rcases List.mem_cons.mp hb with rfl | hb
      · obtain ⟨o, e, _⟩ := hit
        exact ⟨fresh_not f2.dom (f1 _ (by simp)), o, e⟩
      · rw [List.mem_singleton.mp hb]
        obtain ⟨o, e, _⟩ := hL
        exact ⟨nX, o, hk _ _ e⟩
  · intro i v h it Y hit' hP hk' hY
    obtain ⟨T', vs, rfl, ⟨t, x, hx', rfl⟩, hT⟩ := hP
    unfold enumItems at hit'
    rw [List.getElem?_map] at hit'
    obtain ⟨p, hp, rfl⟩ := Option.map_eq_some_iff.mp hit'
    rw [List.getElem?_zipIdx] at hp
    obtain ⟨xv, hxv, rfl⟩ := Option.map_eq_some_iff.mp hp
    obtain ⟨u, hu, ru⟩ := hr.get hxv
    have : u = x := by rw [Array.getElem?_toList] at hu; exact Option.some.inj (hu.symm.trans hx')
    subst this
    exact ⟨T', _, _, rfl, hT, ⟨t, by simp⟩, item_mono hk f1 hk' hY ru⟩
  · intro i h st b hb
    obtain ⟨⟨old, e1⟩, ⟨o, e2, _⟩, _⟩ := st
    rcases List.mem_cons.mp hb with rfl | hb
    · exact ⟨_, e1⟩
    · rw [List.mem_singleton.mp hb]; exact ⟨o, e2⟩
  · exact fun i s' Q E st hq => W.self i s' Q E st hq

theorem EvIter.zip {te : List Expr} {kk : Nat} {tp np pos : Pos} {e1 e2 : Expr} {xs ys : List V} (hb : Blt C "zip") (h1 : EvE C k env ρ σ e1 (.list xs)) (h2 : EvE C k env ρ σ e2 (.list ys)) (hlen : xs.length ≤ ys.length) (hx : env.kindOf "zip" = some .globalImplicit := by rfl)
    (hst : ((starEach [e1, e2] env).any (·.1)) = false := by rfl) (hse : starEach [e1, e2] env = (false, eval e1 env) :: starEach [e2] env := by rfl) (hse' : starEach [e2] env = (false, eval e2 env) :: starEach [] env := by rfl) :
    EvIter C k env ρ σ (.Tuple te kk tp) (.Call (.Name "zip" np) [e1, e2] [] pos) (zipItems xs ys) := by
  intro A E X σa s Q rm hσ fe h
  refine wp_call (EvE.builtin hb boot_zip' hx) callable_type (EvEs.cons h1 (EvEs.cons h2 EvEs.nil hse') hse) ⟨by simp, hst⟩ rm hσ fe fun s₂ vals k₂ r₂ => ?_
  obtain ⟨v, r, rfl, ⟨l1, us, rfl, nX1, hL1, hr1⟩, v', r', rfl, ⟨l2, ws, rfl, nX2, hL2, hr2⟩, hr'⟩ := r₂
  cases hr'
  have a1 : ∃ o, s₂.heap.get? l1 = some o := by obtain ⟨o, e, _⟩ := hL1; exact ⟨o, e⟩
  have a2 : ∃ o, s₂.heap.get? l2 = some o := by obtain ⟨o, e, _⟩ := hL2; exact ⟨o, e⟩
  have b1 : l1 < s₂.heap.objs.size := by obtain ⟨_, e⟩ := a1; exact Heap.lt_size e
  have b2 : l2 < s₂.heap.objs.size := by obtain ⟨_, e⟩ := a2; exact Heap.lt_size e
  refine call_zip_2 hL1 hL2 fun h' hz hTI hTO hi1 hi2 hsz hk => wpAny_pyIter_zip hz ?_
  exact h _ _ (keeps_trans k₂ (keeps_heap s₂ h' hk)) (zip_iter rm.handled k₂ hk (fe.keeps (kept_of k₂)).dom hz hTI hTO (fun A hh => Steps.list hh (Nat.ne_of_lt b1) us) (fun A hh => Steps.list hh (Nat.ne_of_lt (Nat.lt_succ_of_lt b2)) ws)
    ⟨hi1, IsList.kept hk hL1⟩ ⟨hi2, IsList.kept hk hL2⟩ a1 a2 nX1 nX2 hr1 hr2 hlen)

theorem EvIter.zipT {te : List Expr} {kk : Nat} {tp np pos : Pos} {e1 e2 : Expr} {xs ys : List V} (hb : Blt C "zip") (h1 : EvE C k env ρ σ e1 (.tuple xs)) (h2 : EvE C k env ρ σ e2 (.list ys)) (hlen : xs.length ≤ ys.length) (hx : env.kindOf "zip" = some .globalImplicit := by rfl)
    (hst : ((starEach [e1, e2] env).any (·.1)) = false := by rfl) (hse : starEach [e1, e2] env = (false, eval e1 env) :: starEach [e2] env := by rfl) (hse' : starEach [e2] env = (false, eval e2 env) :: starEach [] env := by rfl) :
    EvIter C k env ρ σ (.Tuple te kk tp) (.Call (.Name "zip" np) [e1, e2] [] pos) (zipItems xs ys) := by
  intro A E X σa s Q rm hσ fe h
  refine wp_call (EvE.builtin hb boot_zip' hx) callable_type (EvEs.cons h1 (EvEs.cons h2 EvEs.nil hse') hse) ⟨by simp, hst⟩ rm hσ fe fun s₂ vals k₂ r₂ => ?_
  obtain ⟨v, r, rfl, ⟨l1, us, rfl, nX1, hL1, hr1⟩, v', r', rfl, ⟨l2, ws, rfl, nX2, hL2, hr2⟩, hr'⟩ := r₂
  cases hr'
  have a1 : ∃ o, s₂.heap.get? l1 = some o := by obtain ⟨o, e, _⟩ := hL1; exact ⟨o, e⟩
  have a2 : ∃ o, s₂.heap.get? l2 = some o := by obtain ⟨o, e, _⟩ := hL2; exact ⟨o, e⟩
  have b1 : l1 < s₂.heap.objs.size := by obtain ⟨_, e⟩ := a1; exact Heap.lt_size e
  have b2 : l2 < s₂.heap.objs.size := by obtain ⟨_, e⟩ := a2; exact Heap.lt_size e
  refine call_zip_tl hL1 hL2 fun h' hz hTI hTO hi1 hi2 hk => wpAny_pyIter_zip hz ?_
  exact h _ _ (keeps_trans k₂ (keeps_heap s₂ h' hk)) (zip_iter rm.handled k₂ hk (fe.keeps (kept_of k₂)).dom hz hTI hTO (fun A hh => Steps.tuple hh (Nat.ne_of_lt b1) us) (fun A hh => Steps.list hh (Nat.ne_of_lt (Nat.lt_succ_of_lt b2)) ws)
    ⟨hi1, let ⟨o, e, r⟩ := hL1; ⟨o, hk _ _ e, r⟩⟩ ⟨hi2, IsList.kept hk hL2⟩ a1 a2 nX1 nX2 hr1 hr2 hlen)
end
end Mine

end

section
open PySem PySem.W PyProof.Rows PyProof.Rows.LCg
namespace Mine

mutual
def V.py : V → PyData
  | .none => .none
  | .bool b => .bool b
  | .int i => .int i
  | .list l => .list (V.pys l)
  | .tuple l => .tuple (V.pys l)
  | .val _ => .none
def V.pys : List V → List PyData
  | [] => []
  | x :: l => x.py :: V.pys l
end
mutual
def V.data : V → Bool
  | .none => true
  | .bool _ => true
  | .int _ => true
  | .list l => V.datas l
  | .tuple l => V.datas l
  | .val _ => false
def V.datas : List V → Bool
  | [] => true
  | x :: l => x.data && V.datas l
end
mutual
theorem Rep.reads {X : Addr → Prop} {h : Heap} : ∀ {x : V} {v : Value}, x.data = true → Rep X h x v → ∃ as, Reads h v x.py as
  | .none, v, _, r => by cases (show v = .none from r); exact ⟨_, .none⟩
  | .bool b, v, _, r => by cases (show v = .bool b from r); exact ⟨_, .bool b⟩
  | .int i, v, _, r => by obtain ⟨t, rfl⟩ := r; exact ⟨_, .int i t⟩
  | .val u, v, d, r => by simp [V.data] at d
  | .list l, v, d, r => by
    obtain ⟨a, items, rfl, _, ⟨o, ho, hc, n, hd⟩, rs⟩ := r
    obtain ⟨as, h2⟩ := Reps.reads (by simpa [V.data] using d) rs
    exact ⟨_, by simpa [V.py] using Reads.list ho hc hd h2⟩
  | .tuple l, v, d, r => by
    obtain ⟨a, items, rfl, _, ⟨o, ho, hc, n, hd⟩, rs⟩ := r
    obtain ⟨as, h2⟩ := Reps.reads (by simpa [V.data] using d) rs
    exact ⟨_, by simpa [V.py] using Reads.tuple ho hc hd h2⟩
theorem Reps.reads {X : Addr → Prop} {h : Heap} : ∀ {x : List V} {v : List Value}, V.datas x = true → Reps X h x v → ∃ as, ReadsAll h v (V.pys x) as
  | [], v, _, r => by cases (show v = [] from r); exact ⟨_, .nil⟩
  | x :: l, v, d, r => by
    obtain ⟨u, t, rfl, r1, r2⟩ := r
    have d' : x.data = true ∧ V.datas l = true := by simpa [V.datas] using d
    obtain ⟨as, h1⟩ := Rep.reads d'.1 r1
    obtain ⟨bs, h2⟩ := Reps.reads d'.2 r2
    exact ⟨_, .cons h1 h2⟩
end
mutual
theorem V.lay : ∀ x : V, x.py.canLay0 = true
  | .none => rfl
  | .bool _ => rfl
  | .int _ => rfl
  | .val _ => rfl
  | .list l => by simp [V.py, PyData.canLay0, V.lays l]
  | .tuple l => by simp [V.py, PyData.canLay0, V.lays l]
theorem V.lays : ∀ x : List V, PyData.canLayAll0 (V.pys x) = true
  | [] => rfl
  | x :: l => by simp [V.pys, PyData.canLayAll0, V.lay x, V.lays l]
end

section
variable {C : Cx} {k : Nat}
theorem cmp_eqd {x y : V} (dx : x.data = true) (dy : y.data = true) (hx : x.py.depth ≤ 64) (hy : y.py.depth ≤ 64) : CmpSpec C k .Eq x y (PyData.eqv x.py y.py) := by
  intro A E X s u v Q rm _ _ r1 r2 h
  obtain ⟨as, ra⟩ := r1.reads dx
  obtain ⟨bs, rb⟩ := r2.reads dy
  exact eq_dataH ra rb (by unfold SeqAt.shaped; rw [V.lay, decide_eq_true hx]; rfl) (by unfold SeqAt.shaped; rw [V.lay, decide_eq_true hy]; rfl) (by have := rm.units; omega) (h s (keeps_refl s))
theorem cmp_ned {x y : V} (dx : x.data = true) (dy : y.data = true) (hx : x.py.depth ≤ 64) (hy : y.py.depth ≤ 64) : CmpSpec C k .NotEq x y (!PyData.eqv x.py y.py) := by
  intro A E X s u v Q rm _ _ r1 r2 h
  obtain ⟨as, ra⟩ := r1.reads dx
  obtain ⟨bs, rb⟩ := r2.reads dy
  exact ne_dataH ra rb (by unfold SeqAt.shaped; rw [V.lay, decide_eq_true hx]; rfl) (by unfold SeqAt.shaped; rw [V.lay, decide_eq_true hy]; rfl) (by have := rm.units; omega) (h s (keeps_refl s))
theorem cmp_ind {x : V} {ys : List V} (dx : x.data = true) (dy : V.datas ys = true) (hx : x.py.depth ≤ 64) : CmpSpec C k .In x (.list ys) ((V.pys ys).any fun y => PyData.eqv y x.py) := by
  intro A E X s u v Q rm _ _ r1 r2 h
  obtain ⟨as, ra⟩ := r1.reads dx
  obtain ⟨bs, rb⟩ := r2.reads (by simpa [V.data] using dy)
  rw [V.py] at rb
  refine SeqAt.in_list_reads rb ra (V.lays ys) (V.lay x) ?_ (h s (keeps_refl s))
  have := rm.units
  have := Nat.min_le_right (PyData.depthAll (V.pys ys)) x.py.depth
  omega

theorem datas_ints : ∀ is : List Int, V.datas (is.map V.int) = true
  | [] => rfl
  | i :: is => by simp [V.datas, V.data, datas_ints is]
theorem pys_ints : ∀ is : List Int, V.pys (is.map V.int) = is.map PyData.int
  | [] => rfl
  | i :: is => by simp [V.pys, V.py, pys_ints is]
theorem depth_ints (is : List Int) : PyData.depthAll (V.pys (is.map V.int)) = 0 := by rw [pys_ints]; exact ke_depthAll is
theorem cmp_eqi {is js : List Int} : CmpSpec C k .Eq (.list (is.map V.int)) (.list (js.map V.int)) (decide (is = js)) := by
  have := cmp_eqd (C := C) (k := k) (x := .list (is.map V.int)) (y := .list (js.map V.int)) (by simp [V.data, datas_ints]) (by simp [V.data, datas_ints]) (by simp [V.py, PyData.depth, depth_ints]) (by simp [V.py, PyData.depth, depth_ints])
  simpa [V.py, PyData.eqv, pys_ints, ked_eqvAll] using this
theorem cmp_nei {is js : List Int} : CmpSpec C k .NotEq (.list (is.map V.int)) (.list (js.map V.int)) (!decide (is = js)) := by
  have := cmp_ned (C := C) (k := k) (x := .list (is.map V.int)) (y := .list (js.map V.int)) (by simp [V.data, datas_ints]) (by simp [V.data, datas_ints]) (by simp [V.py, PyData.depth, depth_ints]) (by simp [V.py, PyData.depth, depth_ints])
  simpa [V.py, PyData.eqv, pys_ints, ked_eqvAll] using this

/-- a number with its sign: a bool and limbs -/
def sg (b : Bool) (is : List Int) : V := .tuple [.bool b, .list (is.map V.int)]
theorem sg_data (b : Bool) (is : List Int) : (sg b is).data = true := by simp [sg, V.data, V.datas, datas_ints]
theorem sg_depth (b : Bool) (is : List Int) : (sg b is).py.depth ≤ 64 := by simp [sg, V.py, V.pys, PyData.depth, PyData.depthAll, depth_ints]
theorem sg_eqv (b c : Bool) (is js : List Int) : PyData.eqv (sg b is).py (sg c js).py = (b == c && decide (is = js)) := by
  simp [sg, V.py, V.pys, PyData.eqv, PyData.eqvAll, pys_ints, ked_eqvAll]
theorem cmp_eqs {b c : Bool} {is js : List Int} : CmpSpec C k .Eq (sg b is) (sg c js) (b == c && decide (is = js)) := by
  have := cmp_eqd (C := C) (k := k) (sg_data b is) (sg_data c js) (sg_depth b is) (sg_depth c js)
  rwa [sg_eqv] at this
end
end Mine

end

section
open PySem PySem.W PyProof.Rows
namespace Mine

def recOf : Stmt → Option DefRec
  | .FunctionDef n a b _ _ _ sc _ _ pos => some ⟨n, a, b, sc, pos⟩
  | _ => none
def recAt (i : Nat) : Option DefRec := match PySem.Challenge.pw_sa0338_01.main.body[i]? with
  | some st => recOf st
  | none => none

def fval (C : Cx) (x : Str) : Value := (C.mg x).getD .none
structure Gl (C : Cx) : Prop where
  defs : ∀ i d, recAt i = some d → d ∈ C.defs
  glo : ∀ i d, recAt i = some d → Glo C d.name (fval C d.name)
  len : Blt C "len"
  range : Blt C "range"
  max : Blt C "max"
  sum : Blt C "sum"
  zip : Blt C "zip"
  enumerate : Blt C "enumerate"
  abs : Blt C "abs"
  int : Blt C "int"
theorem boot_len' : bootBuiltins "len" = some (.builtin "len") := by decide +kernel
theorem boot_max' : bootBuiltins "max" = some (.builtin "max") := by decide +kernel
theorem boot_sum' : bootBuiltins "sum" = some (.builtin "sum") := by decide +kernel
theorem boot_abs' : bootBuiltins "abs" = some (.builtin "abs") := by decide +kernel
theorem boot_int' : bootBuiltins "int" = some (.type "int") := by decide +kernel

abbrev nm (s : String) : Str := Str.ofString s
/-- a list of ints -/
abbrev il (is : List Int) : V := .list (is.map V.int)

/-- no noughts at the end -/
def normI : List Int → List Int
  | [] => []
  | x :: l => match normI l with
    | [] => if x = 0 then [] else [x]
    | y :: r => x :: y :: r

section
variable {C : Cx} {k : Nat} {env : Env} {ρ : List (Str × V)} {σ : List (Str × Bool × List V)}
theorem EvE.len (G : Gl C) {np pos : Pos} {e : Expr} {xs : List V} (he : EvE C k env ρ σ e (.list xs)) (hlen : xs.length < 2 ^ 62) (hx : env.kindOf "len" = some .globalImplicit := by rfl)
    (hst : ((starEach [e] env).any (·.1)) = false := by rfl) (hse : starEach [e] env = (false, eval e env) :: starEach [] env := by rfl) :
    EvE C k env ρ σ (.Call (.Name "len" np) [e] [] pos) (.int xs.length) :=
  EvE.call (EvE.builtin G.len boot_len' hx) callable_builtin (EvEs.cons he EvEs.nil hse) (call_len hlen) ⟨by simp, hst⟩
end

section
variable {C : Cx} {k : Nat} {env : Env} {ρ : List (Str × V)} {σ : List (Str × Bool × List V)}
theorem EvT.cast {e : Expr} {b c : Bool} (h : EvT C k env ρ σ e b) (q : b = c) : EvT C k env ρ σ e c := q ▸ h
theorem EvE.cast {e : Expr} {u v : V} (h : EvE C k env ρ σ e u) (q : u = v) : EvE C k env ρ σ e v := q ▸ h
end
def Covers (ρ : List (Str × V)) : List (Str × V) → Prop
  | [] => True
  | p :: r => ρ.lookup p.1 = some p.2 ∧ Covers ρ r
theorem Covers.less {ρ : List (Str × V)} : ∀ {ρ' : List (Str × V)}, Covers ρ ρ' → ∀ x v, ρ'.lookup x = some v → ρ.lookup x = some v
  | [], _, x, v, h => by cases h
  | (y, w) :: r, c, x, v, h => by
    rw [List.lookup_cons] at h
    by_cases e : (x == y) = true
    · rw [e] at h; cases h
      rw [eq_of_beq e]; exact c.1
    · have e' : (x == y) = false := by simpa using e
      rw [e'] at h; exact Covers.less c.2 x v h
theorem Exs.to {C : Cx} {k : Nat} {env : Env} {ρ : List (Str × V)} {σ : List (Str × Bool × List V)} {P : Out → Prop} {st : List Stmt} (ρ' : List (Str × V)) (c : Covers ρ ρ') (h : Exs C k env ρ' σ st P) : Exs C k env ρ σ st P := h.less c.less
section
variable {C : Cx} {k : Nat} {env : Env} {ρ : List (Str × V)} {σ : List (Str × Bool × List V)}
theorem Fe.less {X : Addr → Prop} {σa : Owned} {h : Heap} (f : Fe C env X ρ σa h) {ρ' : List (Str × V)} (c : Covers ρ ρ') : Fe C env X ρ' σa h := { f with vars := fun x v e => f.vars x v (c.less x v e) }
theorem EvE.to (ρ' : List (Str × V)) (c : Covers ρ ρ') {e : Expr} {v : V} (h : EvE C k env ρ' σ e v) : EvE C k env ρ σ e v := fun A E X σa s Q rm hσ f => h A E X σa s Q rm hσ (f.less c)
theorem EvT.to (ρ' : List (Str × V)) (c : Covers ρ ρ') {e : Expr} {v : Bool} (h : EvT C k env ρ' σ e v) : EvT C k env ρ σ e v := fun A E X σa s Q rm hσ f => h A E X σa s Q rm hσ (f.less c)
end
theorem int_eq {i j : Int} (h : i = j) : some (V.int i) = some (V.int j) := by rw [h]
theorem list_eq {i j : List V} (h : i = j) : some (V.list i) = some (V.list j) := by rw [h]
theorem item_int {is : List Int} {i : Nat} {z : Int} (h : is[i]? = some z) : (is.map V.int)[i]? = some (V.int z) := by simp [h]
theorem sizeLine_ge {n : Nat} (h : n ≤ 1000000) : n ≤ sizeLine := by rw [sizeLine_eq]; omega

theorem normI_snoc0 (l : List Int) : normI (l ++ [0]) = normI l := by
  induction l with
  | nil => rfl
  | cons x l ih => rw [List.cons_append, normI, normI, ih]
theorem normI_snoc (l : List Int) {z : Int} (h : z ≠ 0) : normI (l ++ [z]) = l ++ [z] := by
  induction l with
  | nil => simp [normI, h]
  | cons x l ih =>
    rw [List.cons_append, normI, ih]
    cases l <;> rfl
theorem normI_take (is : List Int) : ∀ (m n : Nat), m + n = is.length → (∀ j, n ≤ j → j < is.length → is[j]? = some 0) → normI is = normI (is.take n)
  | 0, n, h, _ => by rw [List.take_of_length_le (by omega)]
  | m + 1, n, h, hz => by
    rw [normI_take is m (n + 1) (by omega) fun j h1 h2 => hz j (by omega) h2, List.take_add_one, hz n (Nat.le_refl _) (by omega)]
    exact normI_snoc0 _

theorem normal_spec {C : Cx} (G : Gl C) (is : List Int) (hlen : is.length ≤ 1000000) : CallSpec C 1 (fval C "normal") [il is] (il (normI is)) := by
  have hr : ∃ d, recAt 3 = some d := ⟨_, rfl⟩
  obtain ⟨d, h⟩ := hr
  have hd := G.defs 3 d h
  have hg := G.glo 3 d h
  cases h
  refine CallSpec.def (k := 0) hd hg (names := [nm "a"]) (fun L a cd => ?_) (fun _ _ _ => by intro v; rfl) rfl (by decide) (fun _ => rfl) rfl rfl rfl
  refine Exs.cons (Ex.assign (EvE.len G (EvE.name rfl) (by simp; omega)) ?_)
  refine Exs.cons (Ex.mono (P := fun o => ∃ n : Nat, n ≤ is.length ∧ o = .next [(nm "end", .int (n : Int)), (nm "a", il is)] [] ∧ normI is = is.take n) ?loop ?tail)
  case tail =>
    rintro o ⟨n, hn, rfl, e⟩
    refine Exs.cons (Ex.ret (EvE.upto (EvE.name rfl) (EvE.name rfl) (by omega) (by simpa using sizeLine_ge hlen)) ?_)
    show V.list _ = V.list _
    rw [e]; simp
  refine Ex.while (fun n ρ σ => n ≤ is.length ∧ ρ = [(nm "end", .int (n : Int)), (nm "a", il is)] ∧ σ = [] ∧ ∀ j, n ≤ j → j < is.length → is[j]? = some 0) is.length ⟨Nat.le_refl _, by simp, rfl, fun j h1 h2 => by omega⟩ ?_
  rintro n ρ σ ⟨hn, rfl, rfl, hz⟩
  have ht := normI_take is (is.length - n) n (by omega) hz
  rcases Nat.eq_zero_or_pos n with rfl | h0
  · exact ⟨_, EvT.and (b := false) (c := false) (EvT.cmp (EvE.name rfl) EvE.const_int cmp_gt) (fun q => by cases q), (fun q => by cases q), fun _ => ⟨0, hn, rfl, ht⟩⟩
  · obtain ⟨z, hz'⟩ : ∃ z, is[n - 1]? = some z := ⟨_, List.getElem?_eq_getElem (by omega)⟩
    refine ⟨_, EvT.and (EvT.cmp (EvE.name rfl) EvE.const_int cmp_gt) (fun _ => EvT.cmp (EvE.item (EvE.name rfl) (EvE.bin (EvE.name rfl) EvE.const_int bin_sub) (by omega) (v := .int z) (by rw [show ((n : Int) - 1).toNat = n - 1 by omega]; simpa using hz') (by simp; omega)) EvE.const_int cmp_eq), fun q => ?_, fun q => ?_⟩
    · have hz0 : z = 0 := by simpa using (Bool.and_eq_true_iff.mp q).2
      subst hz0
      refine Exs.cons (Ex.aug rfl EvE.const_int in_sub (Exs.to [(nm "end", .int ((n - 1 : Nat) : Int)), (nm "a", il is)] ⟨int_eq (by omega), rfl, trivial⟩ (Exs.nil ?_)))
      refine ⟨n - 1, by omega, by omega, rfl, rfl, fun j h1 h2 => ?_⟩
      rcases Nat.lt_or_ge j n with h | h
      · rw [show j = n - 1 by omega]; exact hz'
      · exact hz j h h2
    · have hz0 : z ≠ 0 := by
        intro e
        simp [e, h0] at q
      refine ⟨n, hn, rfl, ?_⟩
      rw [ht]
      have : is.take n = is.take (n - 1) ++ [z] := by
        conv => lhs; rw [show n = n - 1 + 1 by omega, List.take_add_one, hz']
        rfl
      rw [this, normI_snoc _ hz0]
end Mine

end

section
open PySem PySem.W PyProof.Rows
namespace Mine

/-- natural numbers as ints -/
def zs (l : List Nat) : List Int := l.map fun n : Nat => (n : Int)
abbrev nl (l : List Nat) : V := il (zs l)
theorem zs_len (l : List Nat) : (zs l).length = l.length := by simp [zs]
theorem zs_get {l : List Nat} {i n : Nat} (h : l[i]? = some n) : (zs l)[i]? = some (n : Int) := by simp [zs, h]
theorem zs_app (l m : List Nat) : zs (l ++ m) = zs l ++ zs m := by simp [zs]
theorem zs_snoc (l : List Nat) (n : Nat) : (zs (l ++ [n])).map V.int = (zs l).map V.int ++ [V.int n] := by simp [zs]
theorem zs_take (l : List Nat) (n : Nat) : (zs l).take n = zs (l.take n) := by simp [zs, List.map_take]

def normN : List Nat → List Nat
  | [] => []
  | x :: l => match normN l with
    | [] => if x = 0 then [] else [x]
    | y :: r => x :: y :: r
theorem normI_zs : ∀ l : List Nat, normI (zs l) = zs (normN l)
  | [] => rfl
  | x :: l => by
    have ih := normI_zs l
    have : zs (x :: l) = (x : Int) :: zs l := rfl
    rw [this, normI, ih, normN]
    cases normN l with
    | nil => by_cases h : x = 0 <;> simp [zs, h]
    | cons y r => rfl

/-- limbs, the lowest first -/
def digF (b : Nat) : Nat → Nat → List Nat
  | 0, _ => []
  | f + 1, n => if n = 0 then [] else (n % b) :: digF b f (n / b)
def dig (b n : Nat) : List Nat := digF b n n
theorem digF_ge {b : Nat} (hb : 2 ≤ b) : ∀ (f n : Nat), n ≤ f → digF b f n = dig b n := by
  have key : ∀ (f g n : Nat), n ≤ f → n ≤ g → digF b f n = digF b g n := by
    intro f
    induction f with
    | zero =>
      intro g n h1 h2
      obtain rfl : n = 0 := by omega
      cases g <;> simp [digF]
    | succ f ih =>
      intro g n h1 h2
      cases g with
      | zero =>
        obtain rfl : n = 0 := by omega
        simp [digF]
      | succ g =>
        unfold digF
        by_cases h : n = 0
        · simp [h]
        · rw [if_neg h, if_neg h]
          have : n / b < n := Nat.div_lt_self (by omega) (by omega)
          rw [ih g (n / b) (by omega) (by omega)]
  exact fun f n h => key f n n h (Nat.le_refl _)
theorem dig_zero (b : Nat) : dig b 0 = [] := rfl
theorem dig_pos {b n : Nat} (hb : 2 ≤ b) (hn : 0 < n) : dig b n = (n % b) :: dig b (n / b) := by
  obtain ⟨m, rfl⟩ : ∃ m, n = m + 1 := ⟨n - 1, by omega⟩
  have : (m + 1) / b < m + 1 := Nat.div_lt_self (by omega) (by omega)
  conv => lhs; unfold dig digF
  rw [if_neg (by omega), digF_ge hb m _ (by omega)]

theorem two_le_pow {w : Nat} (h : 1 ≤ w) : 2 ≤ 2 ^ w := by
  have := Nat.pow_le_pow_right (n := 2) (by decide) h
  simpa using this

theorem and_mask (n w : Nat) : Builtin.bitAnd (n : Int) (((2 ^ w : Nat) : Int) - 1) = ((n % 2 ^ w : Nat) : Int) := by
  have h1 : (((2 ^ w : Nat) : Int) - 1) = ((2 ^ w - 1 : Nat) : Int) := by
    have := Nat.one_le_two_pow (n := w)
    omega
  rw [h1]
  unfold Builtin.bitAnd
  simp only [Int.natCast_nonneg, decide_true, Int.toNat_natCast]
  rw [Nat.and_two_pow_sub_one_eq_mod]
theorem shr_nat (n w : Nat) : (n : Int).fdiv (2 ^ w) = ((n / 2 ^ w : Nat) : Int) := by
  have : (2 ^ w : Int) = ((2 ^ w : Nat) : Int) := by push_cast; rfl
  rw [this, Int.fdiv_eq_ediv_of_nonneg _ (Int.natCast_nonneg _), Int.natCast_ediv]
theorem mask_eq (w : Nat) : (1 : Int) * 2 ^ ((w : Nat) : Int).toNat - 1 = ((2 ^ w : Nat) : Int) - 1 := by
  rw [Int.toNat_natCast, Int.one_mul]; push_cast; rfl
theorem base_eq (w : Nat) : (1 : Int) * 2 ^ ((w : Nat) : Int).toNat = ((2 ^ w : Nat) : Int) := by
  rw [Int.toNat_natCast, Int.one_mul]; push_cast; rfl

theorem Gl.at {C : Cx} (G : Gl C) {i : Nat} {d : DefRec} (h : recAt i = some d) : d ∈ C.defs ∧ Glo C d.name (fval C d.name) := ⟨G.defs i d h, G.glo i d h⟩

section
variable {C : Cx} {k : Nat} {env : Env} {ρ : List (Str × V)} {σ : List (Str × Bool × List V)}
theorem EvE.itemN {be ie : Expr} {pos : Pos} {q : List Nat} {i x : Nat} (hb : EvE C k env ρ σ be (nl q)) (hi : EvE C k env ρ σ ie (.int (i : Int))) (hx : q[i]? = some x) (hq : q.length ≤ 1000000)
    (hs : ∀ l u, subscripted ie false (.ref l) (.int (i : Int) u) = operate [.ref l, .int (i : Int) u] (getItem (.ref l) (.int (i : Int) u)) := by intro _ _; with_unfolding_all rfl) :
    EvE C k env ρ σ (.Subscript be ie pos) (.int (x : Int)) := EvE.item hb hi (Int.natCast_nonneg _) (item_int (zs_get hx)) (by simp [zs_len]; omega) hs
/-- (1 << w) - 1 -/
theorem ev_mask {w : Nat} {e : Expr} {p1 p2 p3 p4 : Pos} {k1 k2 : Nat} (he : EvE C k env ρ σ e (.int (w : Int))) (hw : w ≤ 1000) :
    EvE C k env ρ σ (.BinOp (.BinOp (.Constant (.int 1) k1 p1) .LShift e p2) .Sub (.Constant (.int 1) k2 p3) p4) (.int (((2 ^ w : Nat) : Int) - 1)) :=
  EvE.cast (EvE.bin (EvE.bin EvE.const_int he (bin_shl (by omega) (by omega) (by decide))) EvE.const_int bin_sub) (by rw [mask_eq])
theorem ev_base {w : Nat} {e : Expr} {p1 p2 : Pos} {k1 : Nat} (he : EvE C k env ρ σ e (.int (w : Int))) (hw : w ≤ 1000) :
    EvE C k env ρ σ (.BinOp (.Constant (.int 1) k1 p1) .LShift e p2) (.int ((2 ^ w : Nat) : Int)) :=
  EvE.cast (EvE.bin EvE.const_int he (bin_shl (by omega) (by omega) (by decide))) (by rw [base_eq])
end

theorem dig_len {b : Nat} (hb : 2 ≤ b) : ∀ (m n : Nat), n < 2 ^ m → (dig b n).length ≤ m
  | 0, n, h => by have : n = 0 := by simpa using h
                  subst this; simp [dig_zero]
  | m + 1, n, h => by
    rcases Nat.eq_zero_or_pos n with rfl | hn
    · simp [dig_zero]
    · rw [dig_pos hb hn, List.length_cons]
      have h2 : n / b < 2 ^ m := by
        have : n / b ≤ n / 2 := Nat.div_le_div_left hb (by omega)
        rw [Nat.pow_succ] at h
        omega
      have := dig_len hb m (n / b) h2
      omega

theorem nat_of_spec {C : Cx} (G : Gl C) (n w : Nat) (hw : 1 ≤ w) (hw2 : w ≤ 1000) (hn : n < 2 ^ 1000) : CallSpec C 1 (fval C "nat_of") [.int n, .int w] (nl (dig (2 ^ w) n)) := by
  obtain ⟨d, h⟩ : ∃ d, recAt 4 = some d := ⟨_, rfl⟩
  obtain ⟨hd, hg⟩ := G.at h
  cases h
  have hb := two_le_pow hw
  refine CallSpec.def (k := 0) hd hg (names := [nm "number", nm "w"]) (fun L a cd => ?_) (fun _ _ _ => by intro v u; rfl) rfl (by decide) (fun _ => rfl) rfl rfl rfl
  refine Exs.cons (Ex.if (c := false) (EvT.cast (EvT.cmp (EvE.name rfl) EvE.const_int cmp_lt) (by simp)) (fun q => by cases q) fun _ => Exs.nil ?_)
  refine Exs.cons (Ex.own_tup true rfl (EvF.list EvEs.nil) (EvEs.cons (ev_mask (EvE.name rfl) hw2) EvEs.nil) ?_)
  refine Exs.cons (Ex.mono (P := fun o => ∃ ρ, o = .next ρ [(nm "found", true, (zs (dig (2 ^ w) n)).map V.int)]) ?loop ?tail)
  case tail =>
    rintro o ⟨ρ, rfl⟩
    exact Exs.freeze [] [] rfl (Exs.cons (Ex.ret (EvE.name rfl) rfl))
  refine Ex.while (fun m ρ σ => ∃ (acc : List Nat), acc ++ dig (2 ^ w) m = dig (2 ^ w) n ∧ Covers ρ [(nm "number", .int (m : Int)), (nm "w", .int w), (nm "mask", .int (((2 ^ w : Nat) : Int) - 1))] ∧ σ = [(nm "found", true, (zs acc).map V.int)]) n
    ⟨[], rfl, ⟨rfl, rfl, rfl, trivial⟩, rfl⟩ ?_
  rintro m ρ σ ⟨acc, hacc, c, rfl⟩
  have hlen : acc.length ≤ 1000 := by
    have := dig_len hb 1000 n hn
    rw [← hacc, List.length_append] at this
    omega
  refine ⟨_, EvT.to _ c (EvT.cmp (EvE.name rfl) EvE.const_int cmp_gt), fun q => ?_, fun q => ?_⟩
  · have hm : 0 < m := by simpa using q
    refine Exs.to _ c (Exs.cons (Ex.append [] [] rfl (EvE.bin (EvE.name rfl) (EvE.name rfl) bin_and) (by simp [zs_len]; exact sizeLine_ge (by omega)) ?_))
    refine Exs.cons (Ex.aug rfl (EvE.name rfl) (in_shr (by omega)) (Exs.nil ?_))
    refine ⟨m / 2 ^ w, Nat.div_lt_self hm (by omega), acc ++ [m % 2 ^ w], ?_, ⟨int_eq (by rw [Int.toNat_natCast, shr_nat]), rfl, rfl, trivial⟩, ?_⟩
    · rw [← hacc, dig_pos hb hm]; simp
    · rw [zs_snoc, and_mask]; rfl
  · have hm : m = 0 := by simpa using q
    subst hm
    rw [dig_zero, List.append_nil] at hacc
    subst hacc
    exact ⟨ρ, rfl⟩

/-- a number and its sign -/
abbrev sn (b : Bool) (l : List Nat) : V := .tuple [.bool b, nl l]

theorem pow_eq (w : Nat) : (2 : Int) ^ ((w : Nat) : Int).toNat = ((2 ^ w : Nat) : Int) := by rw [Int.toNat_natCast]; push_cast; rfl
theorem mod_nat (n b : Nat) : (n : Int).fmod (b : Int) = ((n % b : Nat) : Int) := by rw [Int.fmod_eq_emod_of_nonneg _ (Int.natCast_nonneg _), Int.natCast_emod]
theorem div_nat (n b : Nat) : (n : Int).fdiv (b : Int) = ((n / b : Nat) : Int) := by rw [Int.fdiv_eq_ediv_of_nonneg _ (Int.natCast_nonneg _), Int.natCast_ediv]

theorem signed_spec {C : Cx} (G : Gl C) (n w : Nat) (hw : 1 ≤ w) (hw2 : w ≤ 20) (hn : n < 2 ^ 1000) : CallSpec C 1 (fval C "_law_signed") [.int n, .int w] (sn false (dig (2 ^ w) n)) := by
  obtain ⟨d, h⟩ : ∃ d, recAt 30 = some d := ⟨_, rfl⟩
  obtain ⟨hd, hg⟩ := G.at h
  cases h
  have hb := two_le_pow hw
  have hbs : ((2 ^ w : Nat) : Int).natAbs < 1073741824 := by
    have := Nat.pow_le_pow_right (n := 2) (by decide) hw2
    omega
  have hne : ((2 ^ w : Nat) : Int) ≠ 0 := by omega
  refine CallSpec.def (k := 0) hd hg (names := [nm "number", nm "w"]) (fun L a cd => ?_) (fun _ _ _ => by intro v u; rfl) rfl (by decide) (fun _ => rfl) rfl rfl rfl
  refine Exs.cons (Ex.own true (EvF.list EvEs.nil) ?_)
  refine Exs.cons (Ex.mono (P := fun o => ∃ ρ, o = .next ρ [(nm "found", true, (zs (dig (2 ^ w) n)).map V.int)]) ?loop ?tail)
  case tail =>
    rintro o ⟨ρ, rfl⟩
    exact Exs.freeze [] [] rfl (Exs.cons (Ex.ret (EvE.tuple (EvEs.cons EvE.const_bool (EvEs.cons (EvE.name rfl) EvEs.nil)) (sizeLine_ge (Nat.le_of_ble_eq_true rfl))) rfl))
  refine Ex.while (fun m ρ σ => ∃ (acc : List Nat), acc ++ dig (2 ^ w) m = dig (2 ^ w) n ∧ Covers ρ [(nm "number", .int (m : Int)), (nm "w", .int w)] ∧ σ = [(nm "found", true, (zs acc).map V.int)]) n
    ⟨[], rfl, ⟨rfl, rfl, trivial⟩, rfl⟩ ?_
  rintro m ρ σ ⟨acc, hacc, c, rfl⟩
  have hlen : acc.length ≤ 1000 := by
    have := dig_len hb 1000 n hn
    rw [← hacc, List.length_append] at this
    omega
  have pw : ∀ {ρ : List (Str × V)} {σ} {env : Env} {e : Expr} {p q : Pos} {kk : Nat}, EvE C 0 env ρ σ e (.int w) → EvE C 0 env ρ σ (.BinOp (.Constant (.int 2) kk p) .Pow e q) (.int ((2 ^ w : Nat) : Int)) := fun he =>
    EvE.cast (EvE.bin EvE.const_int he (bin_pow (by omega) (by omega) (by decide))) (by rw [pow_eq])
  refine ⟨_, EvT.to _ c (EvT.cmp (EvE.name rfl) EvE.const_int cmp_gt), fun q => ?_, fun q => ?_⟩
  · have hm : 0 < m := by simpa using q
    refine Exs.to _ c (Exs.cons (Ex.append [] [] rfl (EvE.bin (EvE.name rfl) (pw (EvE.name rfl)) (bin_mod hne)) (by simp [zs_len]; exact sizeLine_ge (by omega)) ?_))
    refine Exs.cons (Ex.assign (EvE.bin (EvE.name rfl) (pw (EvE.name rfl)) (bin_div hne hbs)) (Exs.nil ?_))
    refine ⟨m / 2 ^ w, Nat.div_lt_self hm (by omega), acc ++ [m % 2 ^ w], ?_, ⟨int_eq (div_nat _ _), rfl, trivial⟩, ?_⟩
    · rw [← hacc, dig_pos hb hm]; simp
    · rw [zs_snoc, mod_nat]; rfl
  · have hm : m = 0 := by simpa using q
    subst hm
    rw [dig_zero, List.append_nil] at hacc
    subst hacc
    exact ⟨ρ, rfl⟩
end Mine

end

section
open PySem PySem.W PyProof.Rows
namespace Mine

section
variable {C : Cx} {k : Nat} {env : Env} {ρ : List (Str × V)} {σ : List (Str × Bool × List V)} {P : Out → Prop}
theorem EvE.neg {e : Expr} {pos : Pos} {i : Int} (h : EvE C k env ρ σ e (.int i)) : EvE C k env ρ σ (.UnaryOp .USub e pos) (.int (-i)) := by
  intro A E X σa s Q rm hσ f hq
  refine wpAny_UnaryOp (h A E X σa s _ rm hσ f fun s₁ v k₁ r₁ => ?_)
  obtain ⟨t, rfl⟩ := r₁
  exact neg_int (hq _ _ (keeps_trans k₁ (keeps_toks s₁ _)) ⟨_, rfl⟩)

theorem Ex.for1 {x : Str} {px pos : Pos} {iter : Expr} {body : List Stmt} {vs : List V} (hi : EvIter C k env ρ σ (.Name x px) iter (vs.map .one)) (J : Nat → List (Str × V) → List (Str × Bool × List V) → Prop) (h0 : J 0 ρ σ)
    (step : ∀ i ρ' σ' v, vs[i]? = some v → J i ρ' σ' → (σ'.all fun q => q.1 != x) = true ∧ Exs C k env ((x, v) :: ρ') σ' body (Turn P (J (i + 1))))
    (fin : ∀ ρ' σ', J vs.length ρ' σ' → P (.next ρ' σ')) (hx : Kind env x := by first | exact .inl rfl | exact .inr ⟨rfl, rfl⟩) (hs : ∀ x, foldedSetIterable iter env x = pure x := by intro _; rfl) :
    Ex C k env ρ σ (.For (.Name x px) iter body [] pos) P := by
  refine Ex.for hi J h0 (fun i ρ' σ' it hit hJ => ?_) (fun ρ' σ' hJ => fin ρ' σ' (by simpa using hJ)) hs
  rw [List.getElem?_map] at hit
  obtain ⟨v, hv, rfl⟩ := Option.map_eq_some_iff.mp hit
  obtain ⟨ho, hb⟩ := step i ρ' σ' v hv hJ
  exact ⟨[(x, v)], .one, fun p hp => by rw [List.mem_singleton.mp hp]; exact hx, by simpa using ho, by simp, hb⟩

def rangeV (a c : Int) (n : Nat) : List V := (List.range n).map fun i : Nat => V.int (a + (i : Int) * c)
theorem rangeItems_eq (a c : Int) (n : Nat) : rangeItems a c n = (rangeV a c n).map .one := by unfold rangeItems rangeV; rw [List.map_map]; rfl
theorem rangeV_get {a c : Int} {n i : Nat} {v : V} (h : (rangeV a c n)[i]? = some v) : i < n ∧ v = .int (a + (i : Int) * c) := by
  unfold rangeV at h
  rw [List.getElem?_map] at h
  obtain ⟨j, hj, rfl⟩ := Option.map_eq_some_iff.mp h
  obtain ⟨h1, h2⟩ := List.getElem?_eq_some_iff.mp hj
  rw [List.getElem_range] at h2
  subst h2
  exact ⟨by simpa using h1, rfl⟩
theorem rangeV_len (a c : Int) (n : Nat) : (rangeV a c n).length = n := by simp [rangeV]
theorem Ex.forR {x : Str} {px pos : Pos} {iter : Expr} {body : List Stmt} {a c : Int} {n : Nat} (hi : EvIter C k env ρ σ (.Name x px) iter (rangeItems a c n)) (J : Nat → List (Str × V) → List (Str × Bool × List V) → Prop) (h0 : J 0 ρ σ)
    (step : ∀ (i : Nat) ρ' σ', i < n → J i ρ' σ' → (σ'.all fun q => q.1 != x) = true ∧ Exs C k env ((x, .int (a + (i : Int) * c)) :: ρ') σ' body (Turn P (J (i + 1))))
    (fin : ∀ ρ' σ', J n ρ' σ' → P (.next ρ' σ')) (hx : Kind env x := by first | exact .inl rfl | exact .inr ⟨rfl, rfl⟩) (hs : ∀ x, foldedSetIterable iter env x = pure x := by intro _; rfl) :
    Ex C k env ρ σ (.For (.Name x px) iter body [] pos) P := by
  refine Ex.for1 (vs := rangeV a c n) (by rw [← rangeItems_eq]; exact hi) J h0 (fun i ρ' σ' v hv hJ => ?_) (fun ρ' σ' hJ => fin ρ' σ' (by rwa [rangeV_len] at hJ)) hx hs
  obtain ⟨hlt, rfl⟩ := rangeV_get hv
  exact step i ρ' σ' hlt hJ
theorem small_up {a b : Int} (ha : -1000000000 ≤ a) (ha' : a ≤ 1000000000) (hb : -1000000000 ≤ b) (hb' : b ≤ 1000000000) : Builtin.Range.small a b 1 = true := small_one (by omega) (by omega) (by omega) (by omega)
theorem small_len {n : Nat} (h : n ≤ 1000000) : Builtin.Range.small 0 n 1 = true := small_up (by omega) (by omega) (by omega) (by omega)
theorem small_two {a n : Nat} (ha : a ≤ 1000000) (h : n ≤ 1000000) : Builtin.Range.small a n 1 = true := small_up (by omega) (by omega) (by omega) (by omega)
theorem size_up {a : Int} {n : Nat} : Builtin.Range.rangeSize a (a + n) 1 = (n : Int) := by rw [rangeSize_one]; split <;> omega
theorem size_to {n : Nat} : Builtin.Range.rangeSize 0 n 1 = (n : Int) := by rw [rangeSize_one]; split <;> omega
end

def cmp1 : List Nat → Int
  | [] => -1
  | [x] => if x = 1 then 0 else if x < 1 then -1 else 1
  | _ => 1

theorem compare_spec {C : Cx} (G : Gl C) (l : List Nat) (hlen : l.length ≤ 1000000) : CallSpec C 1 (fval C "compare") [nl l, nl [1]] (.int (cmp1 l)) := by
  obtain ⟨d, h⟩ : ∃ d, recAt 5 = some d := ⟨_, rfl⟩
  obtain ⟨hd, hg⟩ := G.at h
  cases h
  refine CallSpec.def (k := 0) hd hg (names := [nm "a", nm "b"]) (fun L a cd => ?_) (fun _ _ _ => by intro v u; rfl) rfl (by decide) (fun _ => rfl) rfl rfl rfl
  have hl : ((zs l).map V.int).length < 2 ^ 62 := by simp [zs_len]; omega
  have h1 : ((zs [1]).map V.int).length < 2 ^ 62 := by simp [zs_len]
  have e1 : ((((zs l).map V.int).length : Nat) : Int) = (l.length : Int) := by simp [zs_len]
  have e2 : ((((zs [1]).map V.int).length : Nat) : Int) = 1 := by simp [zs_len]
  refine Exs.cons (Ex.if (c := decide (l.length ≠ 1)) (EvT.cast (EvT.cmp (EvE.len G (EvE.name rfl) hl) (EvE.len G (EvE.name rfl) h1) cmp_ne) (by rw [e1, e2]; by_cases h : l.length = 1 <;> simp [h]; omega)) (fun q => ?_) fun q => ?_)
  · have hne : l.length ≠ 1 := by simpa using q
    refine Exs.cons (Ex.ret (EvE.ite (c := decide (l.length < 1)) (EvT.cast (EvT.cmp (EvE.len G (EvE.name rfl) hl) (EvE.len G (EvE.name rfl) h1) cmp_lt) (by rw [e1, e2]; by_cases h : l.length < 1 <;> simp [h] <;> omega)) (v := .int (cmp1 l)) (fun h => EvE.cast (EvE.neg EvE.const_int) ?_) (fun h => EvE.cast EvE.const_int ?_)) rfl)
    · have : l = [] := List.length_eq_zero_iff.mp (by simpa using h)
      subst this; rfl
    · match l, hne with
      | [], _ => simp at h
      | [_], hn => simp at hn
      | _ :: _ :: _, _ => rfl
  · have h1' : l.length = 1 := by simpa using q
    obtain ⟨x, rfl⟩ := List.length_eq_one_iff.mp h1'
    refine Exs.nil ?_
    refine Exs.cons (Ex.forR (n := 1) (a := 0) (c := -1) (EvIter.range3 G.range (EvE.cast (EvE.bin (EvE.len G (EvE.name rfl) hl) EvE.const_int bin_sub) (by rw [e1]; rfl)) (EvE.neg EvE.const_int) (EvE.neg EvE.const_int) (by decide) (by decide) (by decide +kernel) (by decide +kernel))
      (fun i ρ σ => (i = 1 → x = 1) ∧ Covers ρ [(nm "a", nl [x]), (nm "b", nl [1])] ∧ σ = []) ⟨fun h => by omega, ⟨rfl, rfl, trivial⟩, rfl⟩ ?_ ?_)
    · rintro i ρ σ hi ⟨_, c, rfl⟩
      have : i = 0 := by omega
      subst this
      refine ⟨rfl, ?_⟩
      refine Exs.to [(nm "at", .int 0), (nm "a", nl [x]), (nm "b", nl [1])] ⟨rfl, c.1, c.2.1, trivial⟩ ?_
      refine Exs.cons (Ex.if (c := decide (x ≠ 1)) (EvT.cast (EvT.cmp (EvE.item (v := .int x) (EvE.name rfl) (EvE.name rfl) (Int.le_refl _) rfl (by simp [zs_len])) (EvE.item (v := .int (1 : Nat)) (EvE.name rfl) (EvE.name rfl) (Int.le_refl _) rfl (by simp [zs_len])) cmp_ne) (by by_cases h : x = 1 <;> simp [h]; omega)) (fun q => ?_) fun q => Exs.nil (Exs.nil ?_))
      · have hx : x ≠ 1 := by simpa using q
        refine Exs.cons (Ex.ret (EvE.ite (c := decide (x < 1)) (EvT.cast (EvT.cmp (EvE.item (v := .int x) (EvE.name rfl) (EvE.name rfl) (Int.le_refl _) rfl (by simp [zs_len])) (EvE.item (v := .int (1 : Nat)) (EvE.name rfl) (EvE.name rfl) (Int.le_refl _) rfl (by simp [zs_len])) cmp_lt) (by by_cases h : x < 1 <;> simp [h] <;> omega)) (v := .int (cmp1 [x])) (fun h => EvE.cast (EvE.neg EvE.const_int) ?_) (fun h => EvE.cast EvE.const_int ?_)) rfl)
        · have h' : x < 1 := by simpa using h
          simp [cmp1, hx, h']
        · have h' : ¬ x < 1 := by simpa using h
          simp only [cmp1, if_neg hx, if_neg h']
      · exact ⟨fun _ => by simpa using q, ⟨rfl, rfl, trivial⟩, rfl⟩
    · rintro ρ σ ⟨hx, c, rfl⟩
      obtain rfl := hx rfl
      exact Exs.cons (Ex.ret EvE.const_int rfl)

/-- less c, limb by limb -/
def decL (b : Nat) : List Nat → Nat → List Nat
  | [], _ => []
  | x :: l, c => if x < c then (x + b - c) :: decL b l 1 else (x - c) :: decL b l 0

theorem sub_spec {C : Cx} (G : Gl C) (l : List Nat) (w : Nat) (hw : w ≤ 1000) (hlen : l.length ≤ 1000000) (hpos : 0 ≤ cmp1 l) : CallSpec C 2 (fval C "sub") [nl l, nl [1], .int w] (nl (normN (decL (2 ^ w) l 1))) := by
  obtain ⟨d, h⟩ : ∃ d, recAt 7 = some d := ⟨_, rfl⟩
  obtain ⟨hd, hg⟩ := G.at h
  cases h
  have gc : Glo C "compare" (fval C "compare") := (G.at (i := 5) rfl).2
  have dc := callable_def (G.at (i := 5) rfl).1 gc
  have gn : Glo C "normal" (fval C "normal") := (G.at (i := 3) rfl).2
  have dn := callable_def (G.at (i := 3) rfl).1 gn
  refine CallSpec.def (k := 1) hd hg (names := [nm "a", nm "b", nm "w"]) (fun L a cd => ?_) (fun _ _ _ => by intro v u x; rfl) rfl (by decide) (fun _ => rfl) rfl rfl rfl
  have hl : ((zs l).map V.int).length < 2 ^ 62 := by simp [zs_len]; omega
  have h1 : ((zs [1]).map V.int).length < 2 ^ 62 := by simp [zs_len]
  have e1 : ((((zs l).map V.int).length : Nat) : Int) = (l.length : Int) := by simp [zs_len]
  have e2 : ((((zs [1]).map V.int).length : Nat) : Int) = 1 := by simp [zs_len]
  refine Exs.cons (Ex.if (c := false) (EvT.cast (EvT.cmp (EvE.call (EvE.glob gc) dc (EvEs.cons (EvE.name rfl) (EvEs.cons (EvE.name rfl) EvEs.nil)) (compare_spec G l hlen)) EvE.const_int cmp_lt) (by simpa using hpos)) (fun q => by cases q) fun _ => Exs.nil ?_)
  refine Exs.cons (Ex.own_tup true rfl (EvF.list EvEs.nil) (EvEs.cons EvE.const_int (EvEs.cons (ev_base (EvE.name rfl) hw) EvEs.nil)) ?_)
  refine Exs.cons (Ex.forR (n := l.length) (EvIter.range1 G.range (EvE.cast (EvE.len G (EvE.name rfl) hl) (by rw [e1])) (small_len (by omega)) size_to)
    (fun i ρ σ => ∃ (β c : Nat) (out : List Nat), (i = 0 → β = 0 ∧ c = 1) ∧ (0 < i → c = β) ∧ c ≤ 1 ∧ out ++ decL (2 ^ w) (l.drop i) c = decL (2 ^ w) l 1 ∧ out.length = i ∧ Covers ρ [(nm "a", nl l), (nm "b", nl [1]), (nm "borrow", .int (β : Int)), (nm "base", .int ((2 ^ w : Nat) : Int))] ∧ σ = [(nm "found", true, (zs out).map V.int)])
    ⟨0, 1, [], fun _ => ⟨rfl, rfl⟩, fun h => by omega, Nat.le_refl _, rfl, rfl, ⟨rfl, rfl, rfl, rfl, trivial⟩, rfl⟩ ?_ ?_)
  · rintro i ρ σ hi ⟨β, c, out, hc0, hc1, hc, hout, hol, cv, rfl⟩
    refine ⟨rfl, ?_⟩
    obtain ⟨x, hx⟩ : ∃ x, l[i]? = some x := ⟨_, List.getElem?_eq_getElem hi⟩
    refine Exs.to [(nm "at", .int i), (nm "a", nl l), (nm "b", nl [1]), (nm "borrow", .int (β : Int)), (nm "base", .int ((2 ^ w : Nat) : Int))] ⟨int_eq (by omega), cv.1, cv.2.1, cv.2.2.1, cv.2.2.2.1, trivial⟩ ?_
    refine Exs.cons (Ex.assign (v := .int ((x : Int) - c)) (EvE.cast (EvE.bin (EvE.bin (EvE.itemN (q := l) (EvE.name rfl) (EvE.name rfl) hx hlen) (EvE.name rfl) bin_sub)
      (EvE.ite (c := decide (i < 1)) (EvT.cast (EvT.cmp (EvE.name rfl) (EvE.len G (EvE.name rfl) h1) cmp_lt) (by rw [e2]; by_cases h : i < 1 <;> simp [h] <;> omega)) (v := .int ((c : Int) - β))
        (fun h => EvE.item (EvE.name rfl) (EvE.name rfl) (by omega) (by
          have h' : i = 0 := by have := of_decide_eq_true h; omega
          subst h'
          obtain ⟨rfl, rfl⟩ := hc0 rfl
          rfl) h1) (fun h => EvE.cast EvE.const_int (by
          have h' : 0 < i := by have := of_decide_eq_false h; omega
          rw [hc1 h']; simp))) bin_sub) (by congr 1; omega)) ?_)
    have hdrop : l.drop i = x :: l.drop (i + 1) := by
      rw [List.drop_eq_getElem_cons hi]; congr 1
      exact Option.some.inj ((List.getElem?_eq_getElem hi).symm.trans hx)
    rw [hdrop, decL] at hout
    have hol' : out.length ≤ 1000000 := by omega
    by_cases hlt : x < c
    · rw [if_pos hlt] at hout
      refine Exs.cons (Ex.assign (v := .int 1) (EvE.ite (c := true) (EvT.cast (EvT.cmp (EvE.name rfl) EvE.const_int cmp_lt) (by simp; omega)) (fun _ => EvE.const_int) (fun h => by cases h)) ?_)
      refine Exs.cons (Ex.append [] [] rfl (v := .int ((x + 2 ^ w - c : Nat) : Int)) (EvE.ite (c := true) (EvT.cast (EvT.cmp (EvE.name rfl) EvE.const_int cmp_lt) (by simp; omega)) (fun _ => EvE.cast (EvE.bin (EvE.name rfl) (EvE.name rfl) bin_add) (by congr 1; have := Nat.one_le_two_pow (n := w); omega)) (fun h => by cases h)) (by simp [zs_len]; exact sizeLine_ge hol') (Exs.nil ?_))
      refine ⟨1, 1, out ++ [x + 2 ^ w - c], fun h => by omega, fun _ => rfl, Nat.le_refl _, by simpa using hout, by simp [hol], ⟨rfl, rfl, rfl, rfl, trivial⟩, by rw [zs_snoc]; rfl⟩
    · rw [if_neg hlt] at hout
      refine Exs.cons (Ex.assign (v := .int 0) (EvE.ite (c := false) (EvT.cast (EvT.cmp (EvE.name rfl) EvE.const_int cmp_lt) (by simp; omega)) (fun h => by cases h) (fun _ => EvE.const_int)) ?_)
      refine Exs.cons (Ex.append [] [] rfl (v := .int ((x - c : Nat) : Int)) (EvE.ite (c := false) (EvT.cast (EvT.cmp (EvE.name rfl) EvE.const_int cmp_lt) (by simp; omega)) (fun h => by cases h) (fun _ => EvE.cast (EvE.name rfl) (by congr 1; omega))) (by simp [zs_len]; exact sizeLine_ge hol') (Exs.nil ?_))
      refine ⟨0, 0, out ++ [x - c], fun h => by omega, fun _ => rfl, by omega, by simpa using hout, by simp [hol], ⟨rfl, rfl, rfl, rfl, trivial⟩, by rw [zs_snoc]; rfl⟩
  · rintro ρ σ ⟨β, c, out, _, _, _, hout, hol, cv, rfl⟩
    have ho : out = decL (2 ^ w) l 1 := by
      rw [List.drop_of_length_le (Nat.le_refl _), decL, List.append_nil] at hout
      exact hout
    refine Exs.freeze [] [] rfl (Exs.cons (Ex.ret (EvE.call (EvE.glob gn) dn (EvEs.cons (EvE.name rfl) EvEs.nil) ((normal_spec G (zs out) (by rw [zs_len]; omega)).le (by decide))) ?_))
    show il (normI (zs out)) = _
    rw [normI_zs, ho]
end Mine

end

section
open PySem PySem.W PyProof.Rows
namespace Mine

def addC (b : Nat) : List Nat → List Nat → Nat → List Nat
  | [], _, c => if 0 < c then [c] else []
  | x :: l, [], c => ((c + x) % b) :: addC b l [] ((c + x) / b)
  | x :: l, y :: m, c => ((c + (x + y)) % b) :: addC b l m ((c + (x + y)) / b)
def addL (b : Nat) (l m : List Nat) : List Nat := if l.length < m.length then addC b m l 0 else addC b l m 0

theorem drop_cons {l : List Nat} {i x : Nat} (hx : l[i]? = some x) : l.drop i = x :: l.drop (i + 1) := by
  obtain ⟨hi, e⟩ := List.getElem?_eq_some_iff.mp hx
  rw [List.drop_eq_getElem_cons hi, e]

theorem size_from {n m : Nat} (h : n ≤ m) : Builtin.Range.rangeSize n m 1 = ((m - n : Nat) : Int) := by rw [rangeSize_one]; split <;> omega

theorem add_spec {C : Cx} (G : Gl C) (l m : List Nat) (w : Nat) (hw : w ≤ 1000) (hl : l.length ≤ 1000) (hm : m.length ≤ 1000) : CallSpec C 1 (fval C "add") [nl l, nl m, .int w] (nl (addL (2 ^ w) l m)) := by
  obtain ⟨d, h⟩ : ∃ d, recAt 6 = some d := ⟨_, rfl⟩
  obtain ⟨hd, hg⟩ := G.at h
  cases h
  refine CallSpec.def (k := 0) hd hg (names := [nm "a", nm "b", nm "w"]) (fun L a cd => ?_) (fun _ _ _ => by intro v u x; rfl) rfl (by decide) (fun _ => rfl) rfl rfl rfl
  have len : ∀ q : List Nat, q.length ≤ 1000 → ((zs q).map V.int).length < 2 ^ 62 ∧ ((((zs q).map V.int).length : Nat) : Int) = (q.length : Int) := fun q hq => by simp [zs_len]; omega
  -- the longer one first
  obtain ⟨A, B, hAB, hle, hA, hB⟩ : ∃ A B : List Nat, addL (2 ^ w) l m = addC (2 ^ w) A B 0 ∧ B.length ≤ A.length ∧ A = (if l.length < m.length then m else l) ∧ B = (if l.length < m.length then l else m) := by
    refine ⟨_, _, ?_, ?_, rfl, rfl⟩
    · unfold addL; split <;> rfl
    · split <;> omega
  have hA' : A.length ≤ 1000 := by rw [hA]; split <;> assumption
  have hB' : B.length ≤ 1000 := by rw [hB]; split <;> assumption
  have hA6 : A.length ≤ 1000000 := Nat.le_trans hA' (by decide)
  have hB6 : B.length ≤ 1000000 := Nat.le_trans hB' (by decide)
  rw [hAB]
  refine Exs.cons (Ex.mono (P := fun o => ∃ ρ, o = .next ρ [] ∧ Covers ρ [(nm "a", nl A), (nm "b", nl B), (nm "w", .int w)] ∧ ρ.lookup (nm "found") = none) ?first ?rest)
  case first =>
    refine Ex.if (c := decide (l.length < m.length)) (EvT.cast (EvT.cmp (EvE.len G (EvE.name rfl) (len l hl).1) (EvE.len G (EvE.name rfl) (len m hm).1) cmp_lt) (by rw [(len l hl).2, (len m hm).2]; by_cases h : l.length < m.length <;> simp [h])) (fun q => ?_) fun q => Exs.nil ?_
    · have h : l.length < m.length := of_decide_eq_true q
      rw [if_pos h] at hA hB
      subst hA hB
      refine Exs.cons (Ex.assign_tup rfl (EvE.tuple (EvEs.cons (EvE.name rfl) (EvEs.cons (EvE.name rfl) EvEs.nil)) (sizeLine_ge (Nat.le_of_ble_eq_true rfl))) (Exs.nil ⟨_, rfl, ⟨rfl, rfl, rfl, trivial⟩, rfl⟩))
    · have h : ¬ l.length < m.length := of_decide_eq_false q
      rw [if_neg h] at hA hB
      subst hA hB
      exact ⟨_, rfl, ⟨rfl, rfl, rfl, trivial⟩, rfl⟩
  rintro o ⟨ρ, rfl, cv, hnf⟩
  refine Exs.to [(nm "a", nl A), (nm "b", nl B), (nm "w", .int w)] cv ?_
  refine Exs.cons (Ex.own_tup true rfl (EvF.list EvEs.nil) (EvEs.cons EvE.const_int (EvEs.cons (ev_mask (EvE.name rfl) hw) EvEs.nil)) ?_)
  refine Exs.cons (Ex.mono (P := fun o => ∃ (ρ : List (Str × V)) (c : Nat) (out : List Nat), o = .next ρ [(nm "found", true, (zs out).map V.int)] ∧ out ++ addC (2 ^ w) (A.drop B.length) [] c = addC (2 ^ w) A B 0 ∧ out.length = B.length ∧ Covers ρ [(nm "a", nl A), (nm "b", nl B), (nm "w", .int w), (nm "carry", .int (c : Int)), (nm "mask", .int (((2 ^ w : Nat) : Int) - 1))]) ?one ?two)
  case one =>
    refine Ex.forR (n := B.length) (EvIter.range1 G.range (EvE.cast (EvE.len G (EvE.name rfl) (len B hB').1) (by rw [(len B hB').2])) (small_len hB6) size_to)
      (fun i ρ σ => ∃ (c : Nat) (out : List Nat), out ++ addC (2 ^ w) (A.drop i) (B.drop i) c = addC (2 ^ w) A B 0 ∧ out.length = i ∧ Covers ρ [(nm "a", nl A), (nm "b", nl B), (nm "w", .int w), (nm "carry", .int (c : Int)), (nm "mask", .int (((2 ^ w : Nat) : Int) - 1))] ∧ σ = [(nm "found", true, (zs out).map V.int)])
      ⟨0, [], rfl, rfl, ⟨rfl, rfl, rfl, rfl, rfl, trivial⟩, rfl⟩ ?_ ?_
    · rintro i ρ σ hi ⟨c, out, hout, hol, cv, rfl⟩
      refine ⟨rfl, ?_⟩
      obtain ⟨x, hx⟩ : ∃ x, A[i]? = some x := ⟨_, List.getElem?_eq_getElem (by omega)⟩
      obtain ⟨y, hy⟩ : ∃ y, B[i]? = some y := ⟨_, List.getElem?_eq_getElem hi⟩
      refine Exs.to [(nm "at", .int i), (nm "a", nl A), (nm "b", nl B), (nm "w", .int w), (nm "carry", .int (c : Int)), (nm "mask", .int (((2 ^ w : Nat) : Int) - 1))] ⟨int_eq (by omega), cv.1, cv.2.1, cv.2.2.1, cv.2.2.2.1, cv.2.2.2.2.1, trivial⟩ ?_
      rw [drop_cons hx, drop_cons hy, addC] at hout
      refine Exs.cons (Ex.aug (v := .int ((c + (x + y) : Nat) : Int)) (a := .int (c : Int)) (b := .int ((x + y : Nat) : Int)) rfl (EvE.cast (EvE.bin (EvE.itemN (q := A) (EvE.name rfl) (EvE.name rfl) hx hA6) (EvE.itemN (q := B) (EvE.name rfl) (EvE.name rfl) hy hB6) bin_add) (by congr 1)) (by have := in_add (C := C) (k := 0) (a := (c : Int)) (b := ((x + y : Nat) : Int)); simpa using this) ?_)
      refine Exs.cons (Ex.append [] [] rfl (v := .int (((c + (x + y)) % 2 ^ w : Nat) : Int)) (EvE.cast (EvE.bin (EvE.name rfl) (EvE.name rfl) bin_and) (by rw [and_mask])) (by simp [zs_len]; exact sizeLine_ge (by omega)) ?_)
      refine Exs.cons (Ex.aug (v := .int (((c + (x + y)) / 2 ^ w : Nat) : Int)) rfl (EvE.name rfl) (by have := in_shr (C := C) (k := 0) (a := ((c + (x + y) : Nat) : Int)) (n := (w : Int)) (by omega); rwa [Int.toNat_natCast, shr_nat] at this) (Exs.nil ?_))
      exact ⟨_, out ++ [(c + (x + y)) % 2 ^ w], by simpa using hout, by simp [hol], ⟨rfl, rfl, rfl, rfl, rfl, trivial⟩, by rw [zs_snoc]; rfl⟩
    · rintro ρ σ ⟨c, out, hout, hol, cv, rfl⟩
      rw [List.drop_of_length_le (l := B) (Nat.le_refl _)] at hout
      exact ⟨ρ, c, out, rfl, hout, hol, cv⟩
  rintro o ⟨ρ, c, out, rfl, hout, hol, cv⟩
  refine Exs.to _ cv ?_
  refine Exs.cons (Ex.mono (P := fun o => ∃ (ρ : List (Str × V)) (c : Nat) (out : List Nat), o = .next ρ [(nm "found", true, (zs out).map V.int)] ∧ out ++ addC (2 ^ w) [] [] c = addC (2 ^ w) A B 0 ∧ out.length = A.length ∧ Covers ρ [(nm "carry", .int (c : Int))]) ?three ?four)
  case three =>
    refine Ex.forR (a := (B.length : Int)) (n := A.length - B.length) (EvIter.range2 G.range (EvE.cast (EvE.len G (EvE.name rfl) (len B hB').1) (by rw [(len B hB').2])) (EvE.cast (EvE.len G (EvE.name rfl) (len A hA').1) (by rw [(len A hA').2])) (small_two hB6 hA6) (size_from hle))
      (fun i ρ σ => ∃ (c : Nat) (out : List Nat), out ++ addC (2 ^ w) (A.drop (B.length + i)) [] c = addC (2 ^ w) A B 0 ∧ out.length = B.length + i ∧ Covers ρ [(nm "a", nl A), (nm "b", nl B), (nm "w", .int w), (nm "carry", .int (c : Int)), (nm "mask", .int (((2 ^ w : Nat) : Int) - 1))] ∧ σ = [(nm "found", true, (zs out).map V.int)])
      ⟨c, out, hout, hol, ⟨rfl, rfl, rfl, rfl, rfl, trivial⟩, rfl⟩ ?_ ?_
    · rintro i ρ σ hi ⟨c, out, hout, hol, cv, rfl⟩
      refine ⟨rfl, ?_⟩
      obtain ⟨x, hx⟩ : ∃ x, A[B.length + i]? = some x := ⟨_, List.getElem?_eq_getElem (by omega)⟩
      refine Exs.to [(nm "at", .int ((B.length + i : Nat) : Int)), (nm "a", nl A), (nm "b", nl B), (nm "w", .int w), (nm "carry", .int (c : Int)), (nm "mask", .int (((2 ^ w : Nat) : Int) - 1))] ⟨int_eq (by omega), cv.1, cv.2.1, cv.2.2.1, cv.2.2.2.1, cv.2.2.2.2.1, trivial⟩ ?_
      rw [drop_cons hx, addC] at hout
      refine Exs.cons (Ex.aug (v := .int ((c + x : Nat) : Int)) (a := .int (c : Int)) (b := .int (x : Int)) rfl (EvE.itemN (q := A) (EvE.name rfl) (EvE.name rfl) hx hA6) (by have := in_add (C := C) (k := 0) (a := (c : Int)) (b := (x : Int)); simpa using this) ?_)
      refine Exs.cons (Ex.append [] [] rfl (v := .int (((c + x) % 2 ^ w : Nat) : Int)) (EvE.cast (EvE.bin (EvE.name rfl) (EvE.name rfl) bin_and) (by rw [and_mask])) (by simp [zs_len]; exact sizeLine_ge (by omega)) ?_)
      refine Exs.cons (Ex.aug (v := .int (((c + x) / 2 ^ w : Nat) : Int)) rfl (EvE.name rfl) (by have := in_shr (C := C) (k := 0) (a := ((c + x : Nat) : Int)) (n := (w : Int)) (by omega); rwa [Int.toNat_natCast, shr_nat] at this) (Exs.nil ?_))
      exact ⟨_, out ++ [(c + x) % 2 ^ w], by simpa [Nat.add_assoc] using hout, by simp [hol]; omega, ⟨rfl, rfl, rfl, rfl, rfl, trivial⟩, by rw [zs_snoc]; rfl⟩
    · rintro ρ σ ⟨c, out, hout, hol, cv, rfl⟩
      rw [List.drop_of_length_le (l := A) (by omega)] at hout
      exact ⟨ρ, c, out, rfl, hout, by omega, cv.2.2.2.1, trivial⟩
  rintro o ⟨ρ, c, out, rfl, hout, hol, cv⟩
  refine Exs.to _ cv ?_
  rw [← hout, addC]
  refine Exs.cons (Ex.if (c := decide (0 < c)) (EvT.cast (EvT.cmp (EvE.name rfl) EvE.const_int cmp_gt) (by by_cases h : 0 < c <;> simp [h])) (fun q => ?_) fun q => Exs.nil ?_)
  · have h : 0 < c := of_decide_eq_true q
    rw [if_pos h]
    refine Exs.cons (Ex.append [] [] rfl (EvE.name rfl) (by simp [zs_len]; exact sizeLine_ge (by omega)) (Exs.nil ?_))
    exact Exs.freeze [] [] rfl (Exs.cons (Ex.ret (EvE.name rfl) (by rw [← zs_snoc]; rfl)))
  · have h : ¬ 0 < c := of_decide_eq_false q
    rw [if_neg h, List.append_nil]
    exact Exs.freeze [] [] rfl (Exs.cons (Ex.ret (EvE.name rfl) rfl))
end Mine

end

section
open PySem PySem.W PyProof.Rows
namespace Mine

section
variable {C : Cx} {k : Nat} {env : Env} {ρ : List (Str × V)} {σ : List (Str × Bool × List V)} {P : Out → Prop}

theorem EvE.mapInts {x : Str} {px : Pos} {iter elt : Expr} {scope : Scope} {pos : Pos} {cl : List (Str × Addr)} (is : List Int) (F : Int → V) (hi : EvIter C k env ρ σ (.Name x px) iter ((is.map V.int).map .one))
    (helt : ∀ z ∈ is, ∀ D, EvE C k (compEnvC scope cl D env) ((x, .int z) :: seen scope ρ) [] elt (F z)) (hsz : is.length ≤ 1000000)
    (hclos : closureFor scope env = pure cl := by rfl) (hfree : FreeIn env (compEnvC scope cl 0 env) (frees scope) := by first | exact trivial | exact ⟨⟨rfl, rfl, rfl⟩, trivial⟩ | exact ⟨⟨rfl, rfl, rfl⟩, ⟨rfl, rfl, rfl⟩, trivial⟩) (hx : scope.names.lookup x = some .local := by rfl)
    (hcell : ∀ y ∈ scope.names, y.2 ≠ .cell := by decide) (hkind : scope.kind = .function := by rfl) (hnames : ∀ y ∈ scope.names, y.2 = .local → scope.names.lookup y.1 = some .local := by decide)
    (hs : ∀ x, foldedSetIterable iter env x = pure x := by intro _; rfl) :
    EvE C k env ρ σ (.ListComp elt [⟨.Name x px, iter, [], 0⟩] scope pos) (.list (is.map F)) := by
  have := EvE.comp (elt := elt) (ifs := []) (pos := pos) (cl := cl) (fun it => match it with | .one (.int z) => some (F z) | _ => none) hi hclos hfree (fun it hit => ?_) (sizeLine_ge (by simpa using hsz)) hcell hkind hnames hs
  · rwa [List.map_map, List.filterMap_map, show ((fun it => match it with | Item.one (.int z) => some (F z) | _ => none) ∘ Item.one ∘ V.int) = (fun z => some (F z)) from rfl, List.filterMap_eq_map'] at this
  · obtain ⟨v, hv, rfl⟩ := List.mem_map.mp hit
    obtain ⟨z, hz, rfl⟩ := List.mem_map.mp hv
    exact ⟨[(x, .int z)], true, .one, by simp [hx], by simp, fun D => ⟨rfl, fun _ => ⟨_, rfl, helt z hz D⟩, fun h => by cases h⟩⟩

theorem EvE.zipInts {x y : Str} {px py : Pos} {kk : Nat} {tp : Pos} {iter elt : Expr} {scope : Scope} {pos : Pos} {cl : List (Str × Addr)} (is js : List Int) (F : Int → Int → V) (hi : EvIter C k env ρ σ (.Tuple [.Name x px, .Name y py] kk tp) iter (zipItems (is.map V.int) (js.map V.int)))
    (helt : ∀ z u, ∀ D, EvE C k (compEnvC scope cl D env) ((x, .int z) :: (y, .int u) :: seen scope ρ) [] elt (F z u)) (hsz : is.length ≤ 1000000) 
    (hclos : closureFor scope env = pure cl := by rfl) (hfree : FreeIn env (compEnvC scope cl 0 env) (frees scope) := by first | exact trivial | exact ⟨⟨rfl, rfl, rfl⟩, trivial⟩ | exact ⟨⟨rfl, rfl, rfl⟩, ⟨rfl, rfl, rfl⟩, trivial⟩) (hx : scope.names.lookup x = some .local := by rfl) (hy : scope.names.lookup y = some .local := by rfl) (hxy : (x == y) = false := by decide)
    (hcell : ∀ y ∈ scope.names, y.2 ≠ .cell := by decide) (hkind : scope.kind = .function := by rfl) (hnames : ∀ y ∈ scope.names, y.2 = .local → scope.names.lookup y.1 = some .local := by decide)
    (hs : ∀ x, foldedSetIterable iter env x = pure x := by intro _; rfl) :
    EvE C k env ρ σ (.ListComp elt [⟨.Tuple [.Name x px, .Name y py] kk tp, iter, [], 0⟩] scope pos) (.list (List.zipWith F is js)) := by
  have := EvE.comp (elt := elt) (ifs := []) (pos := pos) (cl := cl) (fun it => match it with | .pair (.int z) (.int u) => some (F z u) | _ => none) hi hclos hfree (fun it hit => ?_) (sizeLine_ge (by simp [zipItems]; omega)) hcell hkind hnames hs
  · have e : List.filterMap (fun it => match it with | Item.pair (.int z) (.int u) => some (F z u) | _ => none) (zipItems (is.map V.int) (js.map V.int)) = List.zipWith F is js := by
      unfold zipItems
      rw [List.zip_map, List.map_map, List.filterMap_map, show ((fun it => match it with | Item.pair (.int z) (.int u) => some (F z u) | _ => none) ∘ (fun p : V × V => Item.pair p.1 p.2) ∘ Prod.map V.int V.int) = (fun p : Int × Int => some (F p.1 p.2)) from rfl, List.filterMap_eq_map', List.map_zip_eq_zipWith]; rfl
    rwa [e] at this
  · obtain ⟨v, hv, rfl⟩ := List.mem_map.mp hit
    rw [List.zip_map] at hv
    obtain ⟨⟨z, u⟩, hz, rfl⟩ := List.mem_map.mp hv
    refine ⟨[(x, .int z), (y, .int u)], true, .pair, by simp [hx, hy], by simp; intro q; subst q; simp at hxy, fun D => ⟨rfl, fun _ => ⟨_, rfl, helt z u D⟩, fun h => by cases h⟩⟩
end

theorem zs_map {l : List Nat} {F : Int → Int} {f : Nat → Nat} (h : ∀ x ∈ l, F x = f x) : (zs l).map (fun z => V.int (F z)) = (zs (l.map f)).map V.int := by
  simp only [zs, List.map_map]
  refine List.map_congr_left fun x hx => ?_
  simp [h x hx]
theorem zs_rep (n x : Nat) : List.replicate n (V.int (x : Int)) = (zs (List.replicate n x)).map V.int := by simp [zs]
theorem sizeLine_le : 1000000 ≤ sizeLine := sizeLine_ge (Nat.le_refl _)

def notL (b : Nat) (l : List Nat) : List Nat := l.map fun x => b - 1 - x
def rowF (l : List Nat) (size : Nat) : List Nat := l ++ List.replicate (size - l.length) 0
def rowT (b : Nat) (l : List Nat) (size : Nat) : List Nat := notL b (normN (decL b l 1)) ++ List.replicate (size - (normN (decL b l 1)).length) (b - 1)
def rowL (b : Nat) (below : Bool) (l : List Nat) (size : Nat) : List Nat := if below then rowT b l size else rowF l size

theorem normN_mem {l : List Nat} {x : Nat} (h : x ∈ normN l) : x ∈ l := by
  induction l with
  | nil => exact h
  | cons y l ih =>
    rw [normN] at h
    split at h
    · split at h
      · cases h
      · rw [List.mem_singleton.mp h]; exact List.mem_cons_self
    · rename_i z r e
      rcases List.mem_cons.mp h with rfl | h
      · exact List.mem_cons_self
      · exact List.mem_cons_of_mem _ (ih (e ▸ h))
theorem normN_len : ∀ l : List Nat, (normN l).length ≤ l.length
  | [] => Nat.le_refl _
  | x :: l => by
    have := normN_len l
    rw [normN]
    split
    · split <;> simp
    · rename_i y r e
      rw [e] at this
      simpa using this
theorem decL_len (b : Nat) : ∀ (l : List Nat) (c : Nat), (decL b l c).length = l.length
  | [], _ => rfl
  | x :: l, c => by rw [decL]; split <;> simp [decL_len b l]
theorem decL_lt {b : Nat} : ∀ (l : List Nat) (c : Nat), (∀ x ∈ l, x < b) → ∀ y ∈ decL b l c, y < b
  | [], _, _, y, h => by cases h
  | x :: l, c, hl, y, h => by
    have hx := hl x List.mem_cons_self
    have ih := fun c => decL_lt l c (fun z hz => hl z (List.mem_cons_of_mem _ hz)) y
    rw [decL] at h
    split at h
    · rcases List.mem_cons.mp h with rfl | h
      · omega
      · exact ih _ h
    · rcases List.mem_cons.mp h with rfl | h
      · omega
      · exact ih _ h

theorem row_of_spec {C : Cx} (G : Gl C) (below : Bool) (l : List Nat) (size : Nat) (w : Nat) (hw : w ≤ 1000) (hl : l.length ≤ size) (hs : size ≤ 1000) (hlt : ∀ x ∈ l, x < 2 ^ w) (hpos : below = true → 0 ≤ cmp1 l) :
    CallSpec C 3 (fval C "row_of") [sn below l, .int size, .int w] (nl (rowL (2 ^ w) below l size)) := by
  obtain ⟨d, h⟩ : ∃ d, recAt 9 = some d := ⟨_, rfl⟩
  obtain ⟨hd, hg⟩ := G.at h
  cases h
  have gs : Glo C "sub" (fval C "sub") := (G.at (i := 7) rfl).2
  have ds := callable_def (G.at (i := 7) rfl).1 gs
  refine CallSpec.def (k := 2) hd hg (names := [nm "x", nm "size", nm "w"]) (fun L a cd => ?_) (fun _ _ _ => by intro v u x; rfl) rfl (by decide) (fun _ => rfl) rfl rfl rfl
  have len : ∀ q : List Nat, q.length ≤ 1000 → ((zs q).map V.int).length < 2 ^ 62 ∧ ((((zs q).map V.int).length : Nat) : Int) = (q.length : Int) := fun q hq => by simp [zs_len]; omega
  have hp := Nat.one_le_two_pow (n := w)
  refine Exs.cons (Ex.assign_tup rfl (EvE.name rfl) ?_)
  refine Exs.cons (Ex.assign (ev_mask (EvE.name rfl) hw) ?_)
  refine Exs.cons (Ex.if (c := !below) (EvT.not (EvT.value (EvE.name rfl) truth_bool)) (fun q => ?_) fun q => ?_)
  · obtain rfl : below = false := by simpa using q
    refine Exs.cons (Ex.ret (EvE.cast (EvE.bin (EvE.name rfl) (EvE.bin (EvE.list (EvEs.cons EvE.const_int EvEs.nil)) (EvE.cast (EvE.bin (EvE.name rfl) (EvE.len G (EvE.name rfl) (len l (by omega)).1) bin_sub) (v := .int ((size - l.length : Nat) : Int)) (by rw [(len l (by omega)).2]; congr 1; omega)) (bin_rep (by omega) (by omega))) (bin_addl (by simp [zs_len]; exact Nat.le_trans (by omega) sizeLine_le))) rfl) ?_)
    show V.list _ = _
    rw [Int.toNat_natCast, show ((0 : Int)) = ((0 : Nat) : Int) from rfl, zs_rep]
    simp [rowL, rowF, nl, il, zs]
  · obtain rfl : below = true := by simpa using q
    have hml := normN_len (decL (2 ^ w) l 1)
    rw [decL_len] at hml
    refine Exs.nil ?_
    refine Exs.cons (Ex.assign (EvE.call (EvE.glob gs) ds (EvEs.cons (EvE.name rfl) (EvEs.cons (EvE.list (EvEs.cons EvE.const_int EvEs.nil)) (EvEs.cons (EvE.name rfl) EvEs.nil))) (sub_spec G l w hw (by omega) (hpos rfl))) ?_)
    generalize hM : normN (decL (2 ^ w) l 1) = M at hml ⊢
    have hMlt : ∀ x ∈ M, x < 2 ^ w := fun x hx => decL_lt l 1 hlt x (normN_mem (hM ▸ hx))
    refine Exs.cons (Ex.ret (EvE.cast (EvE.bin (EvE.mapInts (zs M) (fun z => .int (((2 ^ w : Nat) : Int) - 1 - z)) (EvIter.list (EvE.name rfl)) (fun z hz D => EvE.bin (EvE.name rfl) (EvE.name rfl) bin_sub) (by rw [zs_len]; omega))
      (EvE.bin (EvE.list (EvEs.cons (EvE.name rfl) EvEs.nil)) (EvE.cast (EvE.bin (EvE.name rfl) (EvE.len G (EvE.name rfl) (len M (by omega)).1) bin_sub) (v := .int ((size - M.length : Nat) : Int)) (by rw [(len M (by omega)).2]; congr 1; omega)) (bin_rep (by omega) (by omega))) (bin_addl (by simp [zs_len]; exact Nat.le_trans (by omega) sizeLine_le))) rfl) ?_)
    show V.list _ = _
    rw [zs_map (f := fun x => 2 ^ w - 1 - x) (fun x hx => by have := hMlt x hx; omega), Int.toNat_natCast, show (((2 ^ w : Nat) : Int) - 1) = ((2 ^ w - 1 : Nat) : Int) by omega, zs_rep]
    simp [rowL, rowT, notL, hM, nl, il, zs]
end Mine

end

section
open PySem PySem.W PyProof.Rows
namespace Mine

def numL (b w : Nat) (row : List Nat) : Bool × List Nat :=
  if row.getLast?.getD 0 / 2 ^ (w - 1) = 0 then (false, normN row) else (true, addL b (normN (notL b row)) [1])
theorem boot_maxb : bootBuiltins "max" = some (.builtin "max") := boot_max'

theorem bitAnd_nat (m n : Nat) : Builtin.bitAnd (m : Int) (n : Int) = ((m &&& n : Nat) : Int) := by
  unfold Builtin.bitAnd
  simp only [Int.natCast_nonneg, decide_true, Int.toNat_natCast]
theorem or_xor_and : ∀ m n : Nat, (m ^^^ n) + (m &&& n) = m ||| n := by
  intro m
  induction m using Nat.strongRecOn with
  | ind m ih =>
    intro n
    rcases Nat.eq_zero_or_pos m with rfl | hm
    · simp
    · have h := ih (m / 2) (by omega) (n / 2)
      rw [← Nat.xor_div_two, ← Nat.and_div_two, ← Nat.or_div_two] at h
      have a1 := Nat.xor_mod_two_pow (a := m) (b := n) (n := 1)
      have a2 := Nat.and_mod_two_pow (a := m) (b := n) (n := 1)
      have a3 := Nat.or_mod_two_pow (a := m) (b := n) (n := 1)
      have m2 : m % 2 = 0 ∨ m % 2 = 1 := by omega
      have n2 : n % 2 = 0 ∨ n % 2 = 1 := by omega
      simp only [Nat.pow_one] at a1 a2 a3
      rcases m2 with e | e <;> rcases n2 with f | f <;> rw [e, f] at a1 a2 a3 <;> simp only [Nat.xor_self, Nat.zero_xor, Nat.xor_zero, Nat.and_self, Nat.zero_and, Nat.and_zero, Nat.zero_or, Nat.or_zero, Nat.or_self] at a1 a2 a3 <;> omega
theorem bitXor_nat (m n : Nat) : Builtin.bitXor (m : Int) (n : Int) = ((m ^^^ n : Nat) : Int) := by
  have e1 : Builtin.bitAnd (m : Int) (n : Int) = ((m &&& n : Nat) : Int) := by
    unfold Builtin.bitAnd
    simp only [Int.natCast_nonneg, decide_true, Int.toNat_natCast]
  have neg : ∀ k : Nat, ¬ (0 : Int) ≤ -(k : Int) - 1 := fun k => by omega
  have back : ∀ k : Nat, (-(-(k : Int) - 1) - 1).toNat = k := fun k => by omega
  have e2 : Builtin.bitOr (m : Int) (n : Int) = ((m ||| n : Nat) : Int) := by
    unfold Builtin.bitOr Builtin.bitNot Builtin.bitAnd
    simp only [neg, decide_false, Builtin.bitNot, back]
    omega
  unfold Builtin.bitXor
  rw [e1, e2, ← or_xor_and]
  omega

section
variable {C : Cx} {k : Nat} {env : Env} {ρ : List (Str × V)} {σ : List (Str × Bool × List V)} {P : Out → Prop}
theorem nat_len (q : List Nat) (hq : q.length ≤ 1000000) : ((zs q).map V.int).length < 2 ^ 62 := by simp [zs_len]; omega
theorem nat_len' (q : List Nat) : ((((zs q).map V.int).length : Nat) : Int) = (q.length : Int) := by simp [zs_len]
theorem EvE.lenN (G : Gl C) {np pos : Pos} {e : Expr} {q : List Nat} (he : EvE C k env ρ σ e (nl q)) (hq : q.length ≤ 1000000) (hx : env.kindOf "len" = some .globalImplicit := by rfl)
    (hst : ((starEach [e] env).any (·.1)) = false := by rfl) (hse : starEach [e] env = (false, eval e env) :: starEach [] env := by rfl) :
    EvE C k env ρ σ (.Call (.Name "len" np) [e] [] pos) (.int (q.length : Int)) := EvE.cast (EvE.len G he (nat_len q hq) hx hst hse) (by rw [nat_len'])
/-- e >> (w - 1) on natural numbers -/
theorem bin_shrN {n m : Nat} : BinSpec C k .RShift (.int n) (.int m) (.int ((n / 2 ^ m : Nat) : Int)) := by
  have := bin_shr (C := C) (k := k) (a := (n : Int)) (n := (m : Int)) (by omega)
  rwa [Int.toNat_natCast, shr_nat] at this
theorem bin_andN {n m : Nat} : BinSpec C k .BitAnd (.int n) (.int m) (.int ((n &&& m : Nat) : Int)) := by
  have := bin_and (C := C) (k := k) (a := (n : Int)) (b := (m : Int))
  rwa [bitAnd_nat] at this
theorem bin_xorN {n m : Nat} : BinSpec C k .BitXor (.int n) (.int m) (.int ((n ^^^ m : Nat) : Int)) := by
  have := bin_xor (C := C) (k := k) (a := (n : Int)) (b := (m : Int))
  rwa [bitXor_nat] at this
end

theorem notL_len (b : Nat) (l : List Nat) : (notL b l).length = l.length := by simp [notL]

theorem number_of_spec {C : Cx} (G : Gl C) (row : List Nat) (w : Nat) (hw : 1 ≤ w) (hw2 : w ≤ 1000) (hl : row.length ≤ 1000) (hlt : ∀ x ∈ row, x < 2 ^ w) :
    CallSpec C 2 (fval C "number_of") [nl row, .int w] (sn (numL (2 ^ w) w row).1 (numL (2 ^ w) w row).2) := by
  obtain ⟨d, h⟩ : ∃ d, recAt 10 = some d := ⟨_, rfl⟩
  obtain ⟨hd, hg⟩ := G.at h
  cases h
  have gn : Glo C "normal" (fval C "normal") := (G.at (i := 3) rfl).2
  have dn := callable_def (G.at (i := 3) rfl).1 gn
  have ga : Glo C "add" (fval C "add") := (G.at (i := 6) rfl).2
  have da := callable_def (G.at (i := 6) rfl).1 ga
  have hp := Nat.one_le_two_pow (n := w)
  refine CallSpec.def (k := 1) hd hg (names := [nm "row", nm "w"]) (fun L a cd => ?_) (fun _ _ _ => by intro v u; rfl) rfl (by decide) (fun _ => rfl) rfl rfl rfl
  refine Exs.cons (Ex.assign (ev_mask (EvE.name rfl) hw2) ?_)
  refine Exs.cons (Ex.if (c := decide (row.getLast?.getD 0 / 2 ^ (w - 1) = 0)) (EvT.cast (b := (decide (row.length = 0) || decide (row.getLast?.getD 0 / 2 ^ (w - 1) = 0))) (EvT.or (EvT.cast (EvT.cmp (EvE.lenN G (q := row) (EvE.name rfl) (by omega)) EvE.const_int cmp_eq) (by cases row <;> simp; omega)) (fun q => ?last)) (by
    cases row with
    | nil => simp
    | cons x r => simp)) (fun q => ?_) fun q => ?_)
  case last =>
    have hne : row ≠ [] := by intro q'; subst q'; simp at q
    obtain ⟨ini, x, rfl⟩ : ∃ ini x, row = ini ++ [x] := ⟨row.dropLast, row.getLast hne, (List.dropLast_concat_getLast hne).symm⟩
    refine EvT.cast (EvT.cmp (EvE.bin (EvE.item_neg (v := .int x) (EvE.name rfl) (EvE.neg EvE.const_int) (by decide) (by simp [zs_len]; omega) ?_ (nat_len _ (by omega))) (EvE.cast (EvE.bin (EvE.name rfl) EvE.const_int bin_sub) (v := .int ((w - 1 : Nat) : Int)) (by congr 1; omega)) bin_shrN) EvE.const_int cmp_eq) ?_
    · have : ((-1 : Int) + (((zs (ini ++ [x])).map V.int).length : Nat)).toNat = ini.length := by simp [zs_len]; omega
      rw [this]
      simp [zs]
    · rw [List.getLast?_concat]
      show (((x / 2 ^ (w - 1) : Nat) : Int) == 0) = decide (x / 2 ^ (w - 1) = 0)
      generalize x / 2 ^ (w - 1) = y
      by_cases h : y = 0
      · simp [h]
      · simp [h]
  · have h0 : row.getLast?.getD 0 / 2 ^ (w - 1) = 0 := of_decide_eq_true q
    refine Exs.cons (Ex.ret (EvE.tuple (EvEs.cons EvE.const_bool (EvEs.cons (EvE.call (EvE.glob gn) dn (EvEs.cons (EvE.name rfl) EvEs.nil) ((normal_spec G (zs row) (by rw [zs_len]; omega)).le (by decide))) EvEs.nil)) (sizeLine_ge (Nat.le_of_ble_eq_true rfl))) ?_)
    show V.tuple _ = _
    rw [numL, if_pos h0, normI_zs]
  · have h0 : ¬ row.getLast?.getD 0 / 2 ^ (w - 1) = 0 := of_decide_eq_false q
    refine Exs.nil ?_
    have hM : (normN (notL (2 ^ w) row)).length ≤ 1000 := by have := normN_len (notL (2 ^ w) row); rw [notL_len] at this; omega
    refine Exs.cons (Ex.ret (EvE.tuple (EvEs.cons EvE.const_bool (EvEs.cons (EvE.call (EvE.glob ga) da (EvEs.cons (v := nl (normN (notL (2 ^ w) row))) (EvE.cast (EvE.call (EvE.glob gn) dn (EvEs.cons (v := nl (notL (2 ^ w) row)) (EvE.cast (EvE.mapInts (zs row) (fun z => .int (((2 ^ w : Nat) : Int) - 1 - z)) (EvIter.list (EvE.name rfl)) (fun z hz D => EvE.bin (EvE.name rfl) (EvE.name rfl) bin_sub) (by rw [zs_len]; omega)) ?one) EvEs.nil) ((normal_spec G (zs (notL (2 ^ w) row)) (by rw [zs_len, notL_len]; omega)).le (by decide))) (by rw [normI_zs])) (EvEs.cons (EvE.list (EvEs.cons EvE.const_int EvEs.nil)) (EvEs.cons (EvE.name rfl) EvEs.nil))) ((add_spec G _ [1] w hw2 hM (by simp)).le (by decide))) EvEs.nil)) (sizeLine_ge (Nat.le_of_ble_eq_true rfl))) ?_)
    · rw [zs_map (f := fun x => 2 ^ w - 1 - x) (fun x hx => by have := hlt x hx; omega)]; rfl
    · show V.tuple _ = _
      rw [numL, if_neg h0]

def jsize (lx ly : List Nat) : Nat := max lx.length ly.length + 1
theorem joint_size_spec {C : Cx} (G : Gl C) (bx bb : Bool) (lx ly : List Nat) (hx : lx.length ≤ 1000) (hy : ly.length ≤ 1000) : CallSpec C 1 (fval C "joint_size") [sn bx lx, sn bb ly] (.int (jsize lx ly : Nat)) := by
  obtain ⟨d, h⟩ : ∃ d, recAt 11 = some d := ⟨_, rfl⟩
  obtain ⟨hd, hg⟩ := G.at h
  cases h
  refine CallSpec.def (k := 0) hd hg (names := [nm "x", nm "y"]) (fun L a cd => ?_) (fun _ _ _ => by intro v u; rfl) rfl (by decide) (fun _ => rfl) rfl rfl rfl
  refine Exs.cons (Ex.ret (EvE.bin (EvE.call (EvE.builtin G.max boot_max') callable_builtin (EvEs.cons (EvE.lenN G (q := lx) (EvE.item_tup (EvE.name rfl) EvE.const_int (by decide) rfl (by simp)) (by omega)) (EvEs.cons (EvE.lenN G (q := ly) (EvE.item_tup (EvE.name rfl) EvE.const_int (by decide) rfl (by simp)) (by omega)) EvEs.nil)) call_max) EvE.const_int bin_add) ?_)
  show V.int _ = _
  congr 1
  simp [jsize]
  omega

/-- a signed number as the program may hold it -/
structure SnOk (w : Nat) (b : Bool) (l : List Nat) : Prop where
  len : l.length ≤ 900
  lt : ∀ x ∈ l, x < 2 ^ w
  pos : b = true → 0 ≤ cmp1 l
theorem rowL_len {b : Nat} {below : Bool} {l : List Nat} {size : Nat} (h : l.length ≤ size) : (rowL b below l size).length = size := by
  have := normN_len (decL b l 1)
  rw [decL_len] at this
  cases below <;> simp [rowL, rowF, rowT, notL] <;> omega
theorem rowL_lt {w : Nat} {below : Bool} {l : List Nat} {size : Nat} (h : ∀ x ∈ l, x < 2 ^ w) : ∀ x ∈ rowL (2 ^ w) below l size, x < 2 ^ w := by
  have hp := Nat.one_le_two_pow (n := w)
  intro x hx
  cases below
  · rcases List.mem_append.mp (show x ∈ rowF l size from hx) with q | q
    · exact h x q
    · rw [(List.mem_replicate.mp q).2]; omega
  · rcases List.mem_append.mp (show x ∈ rowT (2 ^ w) l size from hx) with q | q
    · obtain ⟨y, _, rfl⟩ := List.mem_map.mp q; omega
    · rw [(List.mem_replicate.mp q).2]; omega

def andS (w : Nat) (bx : Bool) (lx : List Nat) (bb : Bool) (ly : List Nat) : Bool × List Nat := numL (2 ^ w) w (List.zipWith (· &&& ·) (rowL (2 ^ w) bx lx (jsize lx ly)) (rowL (2 ^ w) bb ly (jsize lx ly)))
def xorS (w : Nat) (bx : Bool) (lx : List Nat) (bb : Bool) (ly : List Nat) : Bool × List Nat := numL (2 ^ w) w (List.zipWith (· ^^^ ·) (rowL (2 ^ w) bx lx (jsize lx ly)) (rowL (2 ^ w) bb ly (jsize lx ly)))

theorem zipN {F : Int → Int → V} {f : Nat → Nat → Nat} (h : ∀ m n : Nat, F m n = .int (f m n)) : ∀ (l m : List Nat), List.zipWith F (zs l) (zs m) = (zs (List.zipWith f l m)).map V.int
  | [], _ => rfl
  | _ :: _, [] => rfl
  | x :: l, y :: m => by
    have := zipN h l m
    simp only [zs, List.map_cons, List.zipWith_cons_cons, h]
    simp only [zs] at this
    rw [this]
theorem zip_lt {f : Nat → Nat → Nat} {w : Nat} (h : ∀ m n, m < 2 ^ w → n < 2 ^ w → f m n < 2 ^ w) : ∀ (l m : List Nat), (∀ x ∈ l, x < 2 ^ w) → (∀ x ∈ m, x < 2 ^ w) → ∀ x ∈ List.zipWith f l m, x < 2 ^ w
  | [], _, _, _, x, q => by cases q
  | _ :: _, [], _, _, x, q => by cases q
  | a :: l, b :: m, hl, hm, x, q => by
    rcases List.mem_cons.mp q with rfl | q
    · exact h _ _ (hl _ List.mem_cons_self) (hm _ List.mem_cons_self)
    · exact zip_lt h l m (fun y hy => hl y (List.mem_cons_of_mem _ hy)) (fun y hy => hm y (List.mem_cons_of_mem _ hy)) x q

theorem s_and_spec {C : Cx} (G : Gl C) (w : Nat) (hw : 1 ≤ w) (hw2 : w ≤ 1000) {bx bb : Bool} {lx ly : List Nat} (X : SnOk w bx lx) (Y : SnOk w bb ly) :
    CallSpec C 4 (fval C "s_and") [sn bx lx, sn bb ly, .int w] (sn (andS w bx lx bb ly).1 (andS w bx lx bb ly).2) := by
  obtain ⟨d, h⟩ : ∃ d, recAt 12 = some d := ⟨_, rfl⟩
  obtain ⟨hd, hg⟩ := G.at h
  cases h
  have gn : Glo C "number_of" (fval C "number_of") := (G.at (i := 10) rfl).2
  have dn := callable_def (G.at (i := 10) rfl).1 gn
  have gr : Glo C "row_of" (fval C "row_of") := (G.at (i := 9) rfl).2
  have dr := callable_def (G.at (i := 9) rfl).1 gr
  have gj : Glo C "joint_size" (fval C "joint_size") := (G.at (i := 11) rfl).2
  have dj := callable_def (G.at (i := 11) rfl).1 gj
  have hX := X.len
  have hY := Y.len
  have lX : lx.length ≤ jsize lx ly := by unfold jsize; omega
  have lY : ly.length ≤ jsize lx ly := by unfold jsize; omega
  have lJ : jsize lx ly ≤ 1000 := by unfold jsize; omega
  refine CallSpec.def (k := 3) hd hg (names := [nm "x", nm "y", nm "w"]) (fun L a cd => ?_) (fun _ _ _ => by intro v u x; rfl) rfl (by decide) (fun _ => rfl) rfl rfl rfl
  refine Exs.cons (Ex.assign (EvE.call (EvE.glob gj) dj (EvEs.cons (EvE.name rfl) (EvEs.cons (EvE.name rfl) EvEs.nil)) ((joint_size_spec G bx bb lx ly (by omega) (by omega)).le (by decide))) ?_)
  refine Exs.cons (Ex.ret (EvE.call (EvE.glob gn) dn (EvEs.cons (v := nl (List.zipWith (· &&& ·) (rowL (2 ^ w) bx lx (jsize lx ly)) (rowL (2 ^ w) bb ly (jsize lx ly)))) (EvE.cast (EvE.zipInts (zs (rowL (2 ^ w) bx lx (jsize lx ly))) (zs (rowL (2 ^ w) bb ly (jsize lx ly))) (fun z u => .int (Builtin.bitAnd z u)) (EvIter.zip G.zip
      (EvE.call (EvE.glob gr) dr (EvEs.cons (EvE.name rfl) (EvEs.cons (EvE.name rfl) (EvEs.cons (EvE.name rfl) EvEs.nil))) (row_of_spec G bx lx _ w hw2 lX lJ X.lt X.pos))
      (EvE.call (EvE.glob gr) dr (EvEs.cons (EvE.name rfl) (EvEs.cons (EvE.name rfl) (EvEs.cons (EvE.name rfl) EvEs.nil))) (row_of_spec G bb ly _ w hw2 lY lJ Y.lt Y.pos)) (by simp [zs_len, rowL_len lX, rowL_len lY]))
      (fun z u D => EvE.bin (EvE.name rfl) (EvE.name rfl) bin_and) (by rw [zs_len, rowL_len lX]; omega)) (congrArg V.list (zipN (fun m n => by rw [bitAnd_nat]) _ _))) (EvEs.cons (EvE.name rfl) EvEs.nil))
      ((number_of_spec G _ w hw hw2 (by simp [rowL_len lX]; omega) (zip_lt (fun m n hm hn => Nat.lt_of_le_of_lt Nat.and_le_left hm) _ _ (rowL_lt X.lt) (rowL_lt Y.lt))).le (by decide))) rfl)

theorem s_xor_spec {C : Cx} (G : Gl C) (w : Nat) (hw : 1 ≤ w) (hw2 : w ≤ 1000) {bx bb : Bool} {lx ly : List Nat} (X : SnOk w bx lx) (Y : SnOk w bb ly) :
    CallSpec C 4 (fval C "s_xor") [sn bx lx, sn bb ly, .int w] (sn (xorS w bx lx bb ly).1 (xorS w bx lx bb ly).2) := by
  obtain ⟨d, h⟩ : ∃ d, recAt 13 = some d := ⟨_, rfl⟩
  obtain ⟨hd, hg⟩ := G.at h
  cases h
  have gn : Glo C "number_of" (fval C "number_of") := (G.at (i := 10) rfl).2
  have dn := callable_def (G.at (i := 10) rfl).1 gn
  have gr : Glo C "row_of" (fval C "row_of") := (G.at (i := 9) rfl).2
  have dr := callable_def (G.at (i := 9) rfl).1 gr
  have gj : Glo C "joint_size" (fval C "joint_size") := (G.at (i := 11) rfl).2
  have dj := callable_def (G.at (i := 11) rfl).1 gj
  have hX := X.len
  have hY := Y.len
  have lX : lx.length ≤ jsize lx ly := by unfold jsize; omega
  have lY : ly.length ≤ jsize lx ly := by unfold jsize; omega
  have lJ : jsize lx ly ≤ 1000 := by unfold jsize; omega
  refine CallSpec.def (k := 3) hd hg (names := [nm "x", nm "y", nm "w"]) (fun L a cd => ?_) (fun _ _ _ => by intro v u x; rfl) rfl (by decide) (fun _ => rfl) rfl rfl rfl
  refine Exs.cons (Ex.assign (EvE.call (EvE.glob gj) dj (EvEs.cons (EvE.name rfl) (EvEs.cons (EvE.name rfl) EvEs.nil)) ((joint_size_spec G bx bb lx ly (by omega) (by omega)).le (by decide))) ?_)
  refine Exs.cons (Ex.ret (EvE.call (EvE.glob gn) dn (EvEs.cons (v := nl (List.zipWith (· ^^^ ·) (rowL (2 ^ w) bx lx (jsize lx ly)) (rowL (2 ^ w) bb ly (jsize lx ly)))) (EvE.cast (EvE.zipInts (zs (rowL (2 ^ w) bx lx (jsize lx ly))) (zs (rowL (2 ^ w) bb ly (jsize lx ly))) (fun z u => .int (Builtin.bitXor z u)) (EvIter.zip G.zip
      (EvE.call (EvE.glob gr) dr (EvEs.cons (EvE.name rfl) (EvEs.cons (EvE.name rfl) (EvEs.cons (EvE.name rfl) EvEs.nil))) (row_of_spec G bx lx _ w hw2 lX lJ X.lt X.pos))
      (EvE.call (EvE.glob gr) dr (EvEs.cons (EvE.name rfl) (EvEs.cons (EvE.name rfl) (EvEs.cons (EvE.name rfl) EvEs.nil))) (row_of_spec G bb ly _ w hw2 lY lJ Y.lt Y.pos)) (by simp [zs_len, rowL_len lX, rowL_len lY]))
      (fun z u D => EvE.bin (EvE.name rfl) (EvE.name rfl) bin_xor) (by rw [zs_len, rowL_len lX]; omega)) (congrArg V.list (zipN (fun m n => by rw [bitXor_nat]) _ _))) (EvEs.cons (EvE.name rfl) EvEs.nil))
      ((number_of_spec G _ w hw hw2 (by simp [rowL_len lX]; omega) (zip_lt (fun m n hm hn => Nat.xor_lt_two_pow hm hn) _ _ (rowL_lt X.lt) (rowL_lt Y.lt))).le (by decide))) rfl)

theorem s_not_spec {C : Cx} (G : Gl C) (w : Nat) (hw2 : w ≤ 1000) {l : List Nat} (hl : l.length ≤ 1000) :
    CallSpec C 2 (fval C "s_not") [sn false l, .int w] (sn true (addL (2 ^ w) l [1])) := by
  obtain ⟨d, h⟩ : ∃ d, recAt 14 = some d := ⟨_, rfl⟩
  obtain ⟨hd, hg⟩ := G.at h
  cases h
  have ga : Glo C "add" (fval C "add") := (G.at (i := 6) rfl).2
  have da := callable_def (G.at (i := 6) rfl).1 ga
  refine CallSpec.def (k := 1) hd hg (names := [nm "x", nm "w"]) (fun L a cd => ?_) (fun _ _ _ => by intro v u; rfl) rfl (by decide) (fun _ => rfl) rfl rfl rfl
  refine Exs.cons (Ex.assign_tup rfl (EvE.name rfl) ?_)
  refine Exs.cons (Ex.if (c := false) (EvT.value (EvE.name rfl) truth_bool) (fun q => by cases q) fun _ => Exs.nil ?_)
  refine Exs.cons (Ex.ret (EvE.tuple (EvEs.cons EvE.const_bool (EvEs.cons (EvE.call (EvE.glob ga) da (EvEs.cons (EvE.name rfl) (EvEs.cons (EvE.list (EvEs.cons EvE.const_int EvEs.nil)) (EvEs.cons (EvE.name rfl) EvEs.nil))) (add_spec G l [1] w hw2 hl (by simp))) EvEs.nil)) (sizeLine_ge (Nat.le_of_ble_eq_true rfl))) rfl)

def onesF : Nat → Nat → Nat
  | 0, _ => 0
  | f + 1, n => if n = 0 then 0 else onesF f (n &&& (n - 1)) + 1
def ones (n : Nat) : Nat := onesF n n
theorem and_dec {n : Nat} (h : 0 < n) : n &&& (n - 1) < n := Nat.lt_of_le_of_lt Nat.and_le_right (by omega)
theorem onesF_ge : ∀ (f g n : Nat), n ≤ f → n ≤ g → onesF f n = onesF g n
  | 0, g, n, h1, h2 => by
    obtain rfl : n = 0 := by omega
    cases g <;> simp [onesF]
  | f + 1, 0, n, h1, h2 => by
    obtain rfl : n = 0 := by omega
    simp [onesF]
  | f + 1, g + 1, n, h1, h2 => by
    unfold onesF
    by_cases h : n = 0
    · simp [h]
    · rw [if_neg h, if_neg h]
      have := and_dec (n := n) (by omega)
      rw [onesF_ge f g _ (by omega) (by omega)]
theorem ones_pos {n : Nat} (h : 0 < n) : ones n = ones (n &&& (n - 1)) + 1 := by
  obtain ⟨m, rfl⟩ : ∃ m, n = m + 1 := ⟨n - 1, by omega⟩
  have := and_dec (n := m + 1) (by omega)
  conv => lhs; unfold ones onesF
  rw [if_neg (by omega), ones, onesF_ge m _ _ (by omega) (Nat.le_refl _)]

theorem limb_ones_spec {C : Cx} (G : Gl C) (n : Nat) : CallSpec C 1 (fval C "limb_ones") [.int n] (.int (ones n : Nat)) := by
  obtain ⟨d, h⟩ : ∃ d, recAt 15 = some d := ⟨_, rfl⟩
  obtain ⟨hd, hg⟩ := G.at h
  cases h
  refine CallSpec.def (k := 0) hd hg (names := [nm "limb"]) (fun L a cd => ?_) (fun _ _ _ => by intro v; rfl) rfl (by decide) (fun _ => rfl) rfl rfl rfl
  refine Exs.cons (Ex.assign EvE.const_int ?_)
  refine Exs.cons (Ex.mono (P := fun o => ∃ ρ, o = .next ρ [] ∧ Covers ρ [(nm "found", .int (ones n : Nat))]) ?loop ?tail)
  case tail =>
    rintro o ⟨ρ, rfl, cv⟩
    exact Exs.to _ cv (Exs.cons (Ex.ret (EvE.name rfl) rfl))
  refine Ex.while (fun m ρ σ => ∃ acc : Nat, acc + ones m = ones n ∧ Covers ρ [(nm "limb", .int (m : Int)), (nm "found", .int (acc : Int))] ∧ σ = []) n ⟨0, by omega, ⟨rfl, rfl, trivial⟩, rfl⟩ ?_
  rintro m ρ σ ⟨acc, hacc, cv, rfl⟩
  refine ⟨_, EvT.to _ cv (EvT.cmp (EvE.name rfl) EvE.const_int cmp_gt), fun q => ?_, fun q => ?_⟩
  · have hm : 0 < m := by simpa using q
    refine Exs.to _ cv (Exs.cons (Ex.assign (v := .int ((m &&& (m - 1) : Nat) : Int)) (EvE.bin (EvE.name rfl) (EvE.cast (EvE.bin (EvE.name rfl) EvE.const_int bin_sub) (v := .int ((m - 1 : Nat) : Int)) (by congr 1; omega)) bin_andN) ?_))
    refine Exs.cons (Ex.assign (v := .int ((acc + 1 : Nat) : Int)) (EvE.bin (EvE.name rfl) EvE.const_int bin_add) (Exs.nil ?_))
    exact ⟨_, and_dec hm, acc + 1, by rw [← hacc, ones_pos hm]; omega, ⟨rfl, rfl, trivial⟩, rfl⟩
  · have hm : m = 0 := by simpa using q
    subst hm
    refine ⟨ρ, rfl, ?_, trivial⟩
    rw [cv.2.1, ← hacc]; rfl

def nones (l : List Nat) : Nat := (l.map ones).sum
theorem zs_sum : ∀ l : List Nat, (zs l).sum = ((l.sum : Nat) : Int)
  | [] => rfl
  | x :: l => by
    have := zs_sum l
    simp only [zs, List.map_cons, List.sum_cons] at this ⊢
    rw [this]; omega
theorem nat_ones_spec {C : Cx} (G : Gl C) (l : List Nat) (hl : l.length ≤ 1000) : CallSpec C 2 (fval C "nat_ones") [nl l] (.int (nones l : Nat)) := by
  obtain ⟨d, h⟩ : ∃ d, recAt 16 = some d := ⟨_, rfl⟩
  obtain ⟨hd, hg⟩ := G.at h
  cases h
  have go : Glo C "limb_ones" (fval C "limb_ones") := (G.at (i := 15) rfl).2
  have dO := callable_def (G.at (i := 15) rfl).1 go
  refine CallSpec.def (k := 1) hd hg (names := [nm "a"]) (fun L a cd => ?_) (fun _ _ _ => by intro v; rfl) rfl (by decide) (fun _ => rfl) rfl rfl rfl
  refine Exs.cons (Ex.ret (EvE.call (EvE.builtin G.sum boot_sum') callable_builtin (EvEs.cons (v := il (zs (l.map ones))) (EvE.cast (EvE.mapInts (zs l) (fun z => .int ((ones z.toNat : Nat) : Int)) (EvIter.list (EvE.name rfl)) (fun z hz D => ?elt) (by rw [zs_len]; omega)) ?eq) EvEs.nil) call_sum) ?_)
  case elt =>
    obtain ⟨n, _, rfl⟩ := List.mem_map.mp hz
    exact EvE.call (EvE.glob go) dO (EvEs.cons (EvE.name rfl) EvEs.nil) (limb_ones_spec G n)
  case eq => exact congrArg V.list (zs_map (F := fun z => ((ones z.toNat : Nat) : Int)) fun x _ => rfl)
  · show V.int _ = _
    rw [zs_sum]; rfl

theorem count_ones_spec {C : Cx} (G : Gl C) (l : List Nat) (hl : l.length ≤ 1000) : CallSpec C 3 (fval C "count_ones") [sn false l] (.int (nones l : Nat)) := by
  obtain ⟨d, h⟩ : ∃ d, recAt 17 = some d := ⟨_, rfl⟩
  obtain ⟨hd, hg⟩ := G.at h
  cases h
  have go : Glo C "nat_ones" (fval C "nat_ones") := (G.at (i := 16) rfl).2
  have dO := callable_def (G.at (i := 16) rfl).1 go
  refine CallSpec.def (k := 2) hd hg (names := [nm "x"]) (fun L a cd => ?_) (fun _ _ _ => by intro v; rfl) rfl (by decide) (fun _ => rfl) rfl rfl rfl
  refine Exs.cons (Ex.ret (EvE.ite (c := false) (EvT.value (EvE.item_tup (v := .bool false) (EvE.name rfl) EvE.const_int (by decide) rfl (by simp)) truth_bool) (fun q => by cases q) (fun _ => EvE.call (EvE.glob go) dO (EvEs.cons (v := nl l) (EvE.item_tup (EvE.name rfl) EvE.const_int (by decide) rfl (by simp)) EvEs.nil) (nat_ones_spec G l hl))) rfl)

theorem addC_len (b : Nat) : ∀ (l m : List Nat) (c : Nat), (addC b l m c).length ≤ l.length + 1
  | [], _, c => by unfold addC; split <;> simp
  | x :: l, [], c => by have := addC_len b l [] ((c + x) / b); simp [addC]; omega
  | x :: l, y :: m, c => by have := addC_len b l m ((c + (x + y)) / b); simp [addC]; omega
theorem numL_len (b w : Nat) (row : List Nat) : (numL b w row).2.length ≤ row.length + 2 := by
  unfold numL
  split
  · have := normN_len row; simp; omega
  · simp only [addL]
    split
    · have := addC_len b [1] (normN (notL b row)) 0; simp at this; omega
    · have := addC_len b (normN (notL b row)) [1] 0
      have h2 := normN_len (notL b row)
      rw [notL_len] at h2
      omega

theorem distance_spec {C : Cx} (G : Gl C) (w : Nat) (hw : 1 ≤ w) (hw2 : w ≤ 1000) {lx ly : List Nat} (X : SnOk w false lx) (Y : SnOk w false ly) :
    CallSpec C 5 (fval C "distance") [sn false lx, sn false ly, .int w] (.int (nones (xorS w false lx false ly).2 : Nat)) := by
  obtain ⟨d, h⟩ : ∃ d, recAt 18 = some d := ⟨_, rfl⟩
  obtain ⟨hd, hg⟩ := G.at h
  cases h
  have go : Glo C "nat_ones" (fval C "nat_ones") := (G.at (i := 16) rfl).2
  have dO := callable_def (G.at (i := 16) rfl).1 go
  have gx : Glo C "s_xor" (fval C "s_xor") := (G.at (i := 13) rfl).2
  have dx := callable_def (G.at (i := 13) rfl).1 gx
  have hX := X.len
  have hY := Y.len
  refine CallSpec.def (k := 4) hd hg (names := [nm "x", nm "y", nm "w"]) (fun L a cd => ?_) (fun _ _ _ => by intro v u z; rfl) rfl (by decide) (fun _ => rfl) rfl rfl rfl
  refine Exs.cons (Ex.if (c := false) (EvT.cmp (EvE.item_tup (v := .bool false) (EvE.name rfl) EvE.const_int (by decide) rfl (by simp)) (EvE.item_tup (v := .bool false) (EvE.name rfl) EvE.const_int (by decide) rfl (by simp)) cmp_neb) (fun q => by cases q) fun _ => Exs.nil ?_)
  refine Exs.cons (Ex.ret (EvE.call (EvE.glob go) dO (EvEs.cons (v := nl (xorS w false lx false ly).2) (EvE.item_tup (EvE.call (EvE.glob gx) dx (EvEs.cons (EvE.name rfl) (EvEs.cons (EvE.name rfl) (EvEs.cons (EvE.name rfl) EvEs.nil))) (s_xor_spec G w hw hw2 X Y)) EvE.const_int (by decide) rfl (by simp)) EvEs.nil) ((nat_ones_spec G _ ?_).le (by decide))) rfl)
  have := numL_len (2 ^ w) w (List.zipWith (· ^^^ ·) (rowL (2 ^ w) false lx (jsize lx ly)) (rowL (2 ^ w) false ly (jsize lx ly)))
  unfold xorS
  have l1 : (rowL (2 ^ w) false lx (jsize lx ly)).length = jsize lx ly := rowL_len (by unfold jsize; omega)
  have l2 : (rowL (2 ^ w) false ly (jsize lx ly)).length = jsize lx ly := rowL_len (by unfold jsize; omega)
  simp only [List.length_zipWith, l1, l2, Nat.min_self] at this
  unfold jsize at this ⊢
  omega
end Mine

end

section
open PySem PySem.W PyProof.Rows
namespace Mine

section
variable {C : Cx} {k : Nat} {env : Env} {ρ : List (Str × V)} {σ : List (Str × Bool × List V)} {P : Out → Prop}
/-- a call for its own sake -/
theorem Ex.expr {e : Expr} {pos : Pos} (hv : EvE C k env ρ σ e .none) (h : P (.next ρ σ)) (hi : interactive env = false := by rfl) (hs : swapsWith e none pos.line env = pure false := by rfl) : Ex C k env ρ σ (.Expr e pos) P := by
  intro A E s₀ X₀ σa s rm hσ S
  refine wpAny_Expr (hv A E _ σa s _ rm hσ S.fe fun s₁ val k₁ r₁ => ?_) hi hs
  cases (show val = .none from r₁)
  exact ⟨.next ρ σ, σa, h, ⟨rfl, hσ, S.grow k₁⟩, Chg.of_keeps k₁, Sub.refl⟩
end

theorem need_count_spec {C : Cx} (G : Gl C) (n : Nat) : CallSpec C 1 (fval C "need_count") [.int n] .none := by
  obtain ⟨d, h⟩ : ∃ d, recAt 21 = some d := ⟨_, rfl⟩
  obtain ⟨hd, hg⟩ := G.at h
  cases h
  refine CallSpec.def (k := 0) hd hg (names := [nm "n"]) (fun L a cd => ?_) (fun _ _ _ => by intro v; rfl) rfl (by decide) (fun _ => rfl) rfl rfl rfl
  exact Exs.cons (Ex.if (c := false) (EvT.cast (EvT.cmp (EvE.name rfl) EvE.const_int cmp_lt) (by simp)) (fun q => by cases q) fun _ => Exs.nil (Exs.nil rfl))

def legF (p : Nat) : Nat → Nat → Nat
  | 0, _ => 0
  | f + 1, n => if n = 0 then 0 else n / p + legF p f (n / p)
def leg (p n : Nat) : Nat := legF p n n
theorem legF_ge {p : Nat} (hp : 2 ≤ p) : ∀ (f g n : Nat), n ≤ f → n ≤ g → legF p f n = legF p g n
  | 0, g, n, h1, h2 => by
    obtain rfl : n = 0 := by omega
    cases g <;> simp [legF]
  | f + 1, 0, n, h1, h2 => by
    obtain rfl : n = 0 := by omega
    simp [legF]
  | f + 1, g + 1, n, h1, h2 => by
    unfold legF
    by_cases h : n = 0
    · simp [h]
    · rw [if_neg h, if_neg h]
      have : n / p < n := Nat.div_lt_self (by omega) (by omega)
      rw [legF_ge hp f g _ (by omega) (by omega)]
theorem leg_pos {p n : Nat} (hp : 2 ≤ p) (h : 0 < n) : leg p n = n / p + leg p (n / p) := by
  obtain ⟨m, rfl⟩ : ∃ m, n = m + 1 := ⟨n - 1, by omega⟩
  have : (m + 1) / p < m + 1 := Nat.div_lt_self (by omega) (by omega)
  conv => lhs; unfold leg legF
  rw [if_neg (by omega), leg, legF_ge hp m _ _ (by omega) (Nat.le_refl _)]

theorem leg_spec {C : Cx} (G : Gl C) (n p : Nat) (hp : 2 ≤ p) (hp2 : p < 1000000) : CallSpec C 1 (fval C "factorial_exponent") [.int n, .int p] (.int (leg p n : Nat)) := by
  obtain ⟨d, h⟩ : ∃ d, recAt 24 = some d := ⟨_, rfl⟩
  obtain ⟨hd, hg⟩ := G.at h
  cases h
  refine CallSpec.def (k := 0) hd hg (names := [nm "n", nm "prime"]) (fun L a cd => ?_) (fun _ _ _ => by intro v u; rfl) rfl (by decide) (fun _ => rfl) rfl rfl rfl
  refine Exs.cons (Ex.assign EvE.const_int ?_)
  refine Exs.cons (Ex.mono (P := fun o => ∃ ρ, o = .next ρ [] ∧ Covers ρ [(nm "found", .int (leg p n : Nat))]) ?loop ?tail)
  case tail =>
    rintro o ⟨ρ, rfl, cv⟩
    exact Exs.to _ cv (Exs.cons (Ex.ret (EvE.name rfl) rfl))
  refine Ex.while (fun m ρ σ => ∃ acc : Nat, acc + leg p m = leg p n ∧ Covers ρ [(nm "n", .int (m : Int)), (nm "prime", .int (p : Int)), (nm "found", .int (acc : Int))] ∧ σ = []) n ⟨0, by omega, ⟨rfl, rfl, rfl, trivial⟩, rfl⟩ ?_
  rintro m ρ σ ⟨acc, hacc, cv, rfl⟩
  refine ⟨_, EvT.to _ cv (EvT.cmp (EvE.name rfl) EvE.const_int cmp_gt), fun q => ?_, fun q => ?_⟩
  · have hm : 0 < m := by simpa using q
    refine Exs.to _ cv (Exs.cons (Ex.assign (v := .int ((m / p : Nat) : Int)) (EvE.cast (EvE.bin (EvE.name rfl) (EvE.name rfl) (bin_div (by omega) (by omega))) (by rw [div_nat])) ?_))
    refine Exs.cons (Ex.aug (v := .int ((acc + m / p : Nat) : Int)) rfl (EvE.name rfl) in_add (Exs.nil ?_))
    exact ⟨_, Nat.div_lt_self hm (by omega), acc + m / p, by rw [← hacc, leg_pos hp hm]; omega, ⟨rfl, rfl, rfl, trivial⟩, rfl⟩
  · have hm : m = 0 := by simpa using q
    subst hm
    refine ⟨ρ, rfl, ?_, trivial⟩
    rw [cv.2.2.1, ← hacc]; rfl

theorem size_nat (a b c : Nat) (hc : 0 < c) : Builtin.Range.rangeSize a b c = ((if a < b then (b - a - 1) / c + 1 else 0 : Nat) : Int) := by
  unfold Builtin.Range.rangeSize
  rw [if_pos (show (c : Int) > 0 by omega)]
  by_cases h : a < b
  · rw [if_pos h, if_pos (show (a : Int) < b by omega), show ((b : Int) - a - 1) = ((b - a - 1 : Nat) : Int) by omega, ← Int.natCast_ediv]
    omega
  · rw [if_neg h, if_neg (show ¬ (a : Int) < b by omega)]
    rfl
theorem small_nat (a b c : Nat) (hc : 0 < c) (ha : a ≤ 1000000000) (hb : b ≤ 1000000000) (hc2 : c ≤ 1000000000) : Builtin.Range.small a b c = true := by
  unfold Builtin.Range.small
  rw [size_nat a b c hc]
  have : (if a < b then (b - a - 1) / c + 1 else 0 : Nat) ≤ 1000000000 := by
    have := Nat.div_le_self (b - a - 1) c
    split <;> omega
  generalize (if a < b then (b - a - 1) / c + 1 else 0 : Nat) = q at this ⊢
  simp only [Builtin.Range.rangeFitsLong, Bool.and_eq_true, Bool.or_eq_true, decide_eq_true_eq, beq_iff_eq, show ((c : Nat) : Int) > 0 by omega, if_true]
  omega
theorem log_small {a : Nat} (ha : a < 2 ^ 1000) : Builtin.Int.intBits (a : Int) ≤ 2 ^ 20 := by
  unfold Builtin.Int.intBits
  split
  · omega
  · rename_i h
    have h0 : a ≠ 0 := by intro q; subst q; simp at h
    have := (Nat.log2_lt h0).mpr ha
    rw [Int.natAbs_natCast]
    omega
theorem mulOk_small {a b : Nat} (ha : a < 2 ^ 1000) (hb : b < 2 ^ 1000) : IntMulOk (a : Int) (b : Int) := IntMulOk.of_bits (log_small ha) (log_small hb)
theorem small_pow {a : Nat} (h : a < 1000000000000) : a < 2 ^ 1000 := Nat.lt_of_lt_of_le h (by decide +kernel)

def strike (l : List Bool) (a c : Nat) : Nat → List Bool
  | 0 => l
  | i + 1 => (strike l a c i).set (a + i * c) false
theorem strike_len (l : List Bool) (a c : Nat) : ∀ i, (strike l a c i).length = l.length
  | 0 => rfl
  | i + 1 => by rw [strike, List.length_set, strike_len l a c i]
def cntS (n c : Nat) : Nat := if c * c < n + 1 then (n + 1 - c * c - 1) / c + 1 else 0
def sieveAt (n : Nat) : Nat → List Bool × List Nat
  | 0 => (List.replicate (n + 1) true, [])
  | i + 1 => if (sieveAt n i).1[2 + i]?.getD false then (strike (sieveAt n i).1 ((2 + i) * (2 + i)) (2 + i) (cntS n (2 + i)), (sieveAt n i).2 ++ [2 + i]) else sieveAt n i
def sieveL (n : Nat) : List Nat := (sieveAt n (n - 1)).2
theorem sieveAt_len (n : Nat) : ∀ i, (sieveAt n i).1.length = n + 1 ∧ (sieveAt n i).2.length ≤ i
  | 0 => by simp [sieveAt]
  | i + 1 => by
    obtain ⟨h1, h2⟩ := sieveAt_len n i
    rw [sieveAt]
    split
    · simp [strike_len, h1, h2]
    · exact ⟨h1, by omega⟩
def bs (l : List Bool) : List V := l.map V.bool
theorem bs_len (l : List Bool) : (bs l).length = l.length := by simp [bs]
theorem bs_set (l : List Bool) (i : Nat) (b : Bool) : (bs l).set i (.bool b) = bs (l.set i b) := by simp [bs, List.map_set]

theorem sieve_spec {C : Cx} (G : Gl C) (n : Nat) (hn : n ≤ 1000) : CallSpec C 1 (fval C "sieve") [.int n] (nl (sieveL n)) := by
  obtain ⟨d, h⟩ : ∃ d, recAt 20 = some d := ⟨_, rfl⟩
  obtain ⟨hd, hg⟩ := G.at h
  cases h
  refine CallSpec.def (k := 0) hd hg (names := [nm "n"]) (fun L a cd => ?_) (fun _ _ _ => by intro v; rfl) rfl (by decide) (fun _ => rfl) rfl rfl rfl
  refine Exs.cons (Ex.own false (EvF.rep (x := .bool true) (n := ((n + 1 : Nat) : Int)) (EvE.list (EvEs.cons EvE.const_bool EvEs.nil)) (EvE.bin (EvE.name rfl) EvE.const_int bin_add) (by omega) (by omega)) ?_)
  refine Exs.cons (Ex.own true (EvF.list EvEs.nil) ?_)
  refine Exs.cons (Ex.mono (P := fun o => ∃ ρ σ', o = .next ρ ((nm "found", true, (zs (sieveL n)).map V.int) :: σ')) ?loop ?tail)
  case tail =>
    rintro o ⟨ρ, σ', rfl⟩
    exact Exs.freeze [] σ' rfl (Exs.cons (Ex.ret (EvE.name rfl) rfl))
  refine Ex.forR (a := 2) (n := n - 1) (EvIter.range2 G.range EvE.const_int (EvE.bin (EvE.name rfl) EvE.const_int bin_add) (small_up (by omega) (by omega) (by omega) (by omega)) (by rw [rangeSize_one]; split <;> omega))
    (fun i ρ σ => Covers ρ [(nm "n", .int n)] ∧ σ = [(nm "found", true, (zs (sieveAt n i).2).map V.int), (nm "is_left", false, bs (sieveAt n i).1)])
    ⟨⟨rfl, trivial⟩, by simp [sieveAt, bs, zs]⟩ ?_ ?_
  · rintro i ρ σ hi ⟨cv, rfl⟩
    refine ⟨rfl, ?_⟩
    refine Exs.to [(nm "one", .int ((2 + i : Nat) : Int)), (nm "n", .int n)] ⟨int_eq (by omega), cv.1, trivial⟩ ?_
    obtain ⟨h1, h2⟩ := sieveAt_len n i
    have hs : sieveAt n (i + 1) = if (sieveAt n i).1[2 + i]?.getD false then (strike (sieveAt n i).1 ((2 + i) * (2 + i)) (2 + i) (cntS n (2 + i)), (sieveAt n i).2 ++ [2 + i]) else sieveAt n i := rfl
    generalize hS : sieveAt n i = S at h1 h2 hs
    obtain ⟨l, f⟩ := S
    dsimp only at h1 h2 hs
    obtain ⟨b, hb⟩ : ∃ b, l[2 + i]? = some b := ⟨_, List.getElem?_eq_getElem (by omega)⟩
    have hlen : (bs l).length < 2 ^ 62 := by rw [bs_len]; omega
    refine Exs.cons (Ex.if (c := b) (EvT.value (EvE.item_own (v := .bool b) (List.mem_cons_of_mem _ List.mem_cons_self) (EvE.name rfl) (by omega) (by rw [Int.toNat_natCast]; simp [bs, hb]) hlen) truth_bool) (fun q => ?_) fun q => Exs.nil (Exs.nil ?_))
    · subst q
      rw [hb] at hs
      simp only [Option.getD_some, if_true] at hs
      refine Exs.cons (Ex.append [] [(nm "is_left", false, bs l)] rfl (EvE.name rfl) (by simp [zs_len]; exact sizeLine_ge (by omega)) ?_)
      refine Exs.cons (Ex.forR (a := (((2 + i) * (2 + i) : Nat) : Int)) (c := ((2 + i : Nat) : Int)) (n := cntS n (2 + i)) (EvIter.range3 G.range (EvE.bin (EvE.name rfl) (EvE.name rfl) (bin_mul ?mul)) (EvE.bin (EvE.name rfl) EvE.const_int bin_add) (EvE.name rfl) (by omega) (by omega) ?small ?cnt)
        (fun j ρ σ => Covers ρ [(nm "n", .int n)] ∧ σ = [(nm "found", true, (zs (f ++ [2 + i])).map V.int), (nm "is_left", false, bs (strike l ((2 + i) * (2 + i)) (2 + i) j))]) ⟨⟨rfl, trivial⟩, by rw [zs_snoc]; rfl⟩ ?step ?fin)
      case step =>
        rintro j ρ σ hj ⟨cv, rfl⟩
        refine ⟨rfl, ?_⟩
        refine Exs.to [(nm "many", .int (((2 + i) * (2 + i) + j * (2 + i) : Nat) : Int)), (nm "n", .int n)] ⟨int_eq (by push_cast; rfl), cv.1, trivial⟩ ?_
        have hin : (2 + i) * (2 + i) + j * (2 + i) < n + 1 := by
          unfold cntS at hj
          split at hj
          · have h3 : j ≤ (n + 1 - (2 + i) * (2 + i) - 1) / (2 + i) := by omega
            have h4 := Nat.mul_le_of_le_div _ _ _ h3
            omega
          · omega
        refine Exs.cons (Ex.setitem [(nm "found", true, (zs (f ++ [2 + i])).map V.int)] [] rfl EvE.const_bool (EvE.name rfl) (by omega) (by rw [Int.toNat_natCast, bs_len, strike_len]; omega) (by rw [bs_len, strike_len]; omega) (Exs.nil ⟨⟨rfl, trivial⟩, ?_⟩))
        rw [Int.toNat_natCast, bs_set]; rfl
      case fin =>
        rintro ρ σ ⟨cv, rfl⟩
        exact Exs.nil (Exs.nil ⟨cv, by rw [hs]⟩)
      case mul => exact mulOk_small (small_pow (by omega)) (small_pow (by omega))
      case small => exact small_nat _ (n + 1) _ (by omega) (by have := Nat.mul_le_mul (show 2 + i ≤ 1002 by omega) (show 2 + i ≤ 1002 by omega); omega) (by omega) (by omega)
      case cnt => exact size_nat _ (n + 1) _ (by omega)
    · subst q
      rw [hb] at hs
      simp only [Option.getD_some, Bool.false_eq_true, if_false] at hs
      exact ⟨⟨rfl, trivial⟩, by rw [hs]⟩
  · rintro ρ σ ⟨cv, rfl⟩
    exact ⟨ρ, _, rfl⟩
end Mine

end

section
open PySem PySem.W PyProof.Rows
namespace Mine

/-- the number of a row -/
def num (b : Nat) : List Nat → Nat
  | [] => 0
  | x :: l => x + b * num b l
theorem norm_dig {b : Nat} (hb : 2 ≤ b) : ∀ (l : List Nat), (∀ x ∈ l, x < b) → normN l = dig b (num b l)
  | [], _ => rfl
  | x :: l, h => by
    have ih := norm_dig hb l fun y hy => h y (List.mem_cons_of_mem _ hy)
    have hx := h x List.mem_cons_self
    rw [normN, ih, num]
    rcases Nat.eq_zero_or_pos (num b l) with e | e
    · rw [e, dig_zero, Nat.mul_zero, Nat.add_zero]
      dsimp only
      by_cases h0 : x = 0
      · rw [if_pos h0, h0, dig_zero]
      · rw [if_neg h0, dig_pos hb (by omega), Nat.mod_eq_of_lt hx, Nat.div_eq_of_lt hx, dig_zero]
    · have e1 : (x + b * num b l) % b = x := by rw [Nat.add_mul_mod_self_left, Nat.mod_eq_of_lt hx]
      have e2 : (x + b * num b l) / b = num b l := by rw [Nat.add_mul_div_left _ _ (by omega), Nat.div_eq_of_lt hx, Nat.zero_add]
      have e3 : 0 < b * num b l := Nat.mul_pos (by omega) e
      rw [dig_pos hb (n := x + b * num b l) (by omega), e1, e2, dig_pos hb e]
theorem num_dig {b : Nat} (hb : 2 ≤ b) (n : Nat) : num b (dig b n) = n := by
  induction n using Nat.strongRecOn with
  | ind n ih =>
    rcases Nat.eq_zero_or_pos n with rfl | hn
    · rfl
    · rw [dig_pos hb hn, num, ih _ (Nat.div_lt_self hn (by omega))]
      exact Nat.mod_add_div n b
theorem dig_lt {b : Nat} (hb : 2 ≤ b) (n : Nat) : ∀ x ∈ dig b n, x < b := by
  induction n using Nat.strongRecOn with
  | ind n ih =>
    rcases Nat.eq_zero_or_pos n with rfl | hn
    · intro x hx; cases hx
    · rw [dig_pos hb hn]
      intro x hx
      rcases List.mem_cons.mp hx with rfl | hx
      · exact Nat.mod_lt _ (by omega)
      · exact ih _ (Nat.div_lt_self hn (by omega)) x hx
theorem num_app (b : Nat) : ∀ (l m : List Nat), num b (l ++ m) = num b l + b ^ l.length * num b m
  | [], m => by simp [num]
  | x :: l, m => by
    rw [List.cons_append, num, num_app b l m, num, List.length_cons, Nat.pow_succ, Nat.mul_add, Nat.add_assoc, Nat.mul_comm (b ^ l.length) b, Nat.mul_assoc]
theorem num_rep (b : Nat) : ∀ n : Nat, num b (List.replicate n 0) = 0
  | 0 => rfl
  | n + 1 => by rw [List.replicate_succ, num, num_rep b n]; rfl

/-- one limb's row added in -/
def mulRow (b limb : Nat) : List Nat → List Nat → Nat → List Nat
  | x :: acc, y :: m, c => ((c + (x + limb * y)) % b) :: mulRow b limb acc m ((c + (x + limb * y)) / b)
  | _ :: acc, [], c => c :: acc
  | [], _, _ => []
theorem mulRow_len (b limb : Nat) : ∀ (acc m : List Nat) (c : Nat), (mulRow b limb acc m c).length = acc.length
  | [], _, _ => by simp [mulRow]
  | _ :: _, [], _ => by simp [mulRow]
  | x :: acc, y :: m, c => by rw [mulRow, List.length_cons, mulRow_len b limb acc m, List.length_cons]
def mulAll (b : Nat) : List Nat → List Nat → List Nat → List Nat
  | [], _, f => f
  | x :: a, m, f => match mulRow b x f m 0 with
    | y :: r => y :: mulAll b a m r
    | [] => []

theorem mulRow_num {b limb : Nat} : ∀ (acc m : List Nat) (c r : Nat), acc.length = m.length → num b (mulRow b limb (acc ++ List.replicate (r + 1) 0) m c) = num b acc + limb * num b m + c
  | [], [], c, r, _ => by rw [List.nil_append, List.replicate_succ, mulRow]; simp [num, num_rep]
  | [], _ :: _, _, _, h => by simp at h
  | _ :: _, [], _, _, h => by simp at h
  | x :: acc, y :: m, c, r, h => by
    rw [List.cons_append, mulRow, num, mulRow_num acc m _ r (by simpa using h), num, num]
    have := Nat.mod_add_div (c + (x + limb * y)) b
    rw [Nat.mul_add, Nat.mul_add, Nat.mul_add, show b * (limb * num b m) = limb * (b * num b m) from by rw [← Nat.mul_assoc, Nat.mul_comm b, Nat.mul_assoc]]
    omega
theorem mulRow_shape {b limb : Nat} (hb : 2 ≤ b) (hlim : limb < b) : ∀ (acc m : List Nat) (c r : Nat), acc.length = m.length → (∀ x ∈ acc, x < b) → (∀ x ∈ m, x < b) → c < b →
    ∃ out, mulRow b limb (acc ++ List.replicate (r + 1) 0) m c = out ++ List.replicate r 0 ∧ out.length = m.length + 1 ∧ ∀ x ∈ out, x < b
  | [], [], c, r, _, _, _, hc => ⟨[c], by rw [List.nil_append, List.replicate_succ, mulRow]; rfl, rfl, fun x hx => by rw [List.mem_singleton.mp hx]; exact hc⟩
  | [], _ :: _, _, _, h, _, _, _ => by simp at h
  | _ :: _, [], _, _, h, _, _, _ => by simp at h
  | x :: acc, y :: m, c, r, h, ha, hm, hc => by
    have hx := ha x List.mem_cons_self
    have hy := hm y List.mem_cons_self
    have hlt : (c + (x + limb * y)) / b < b := by
      rw [Nat.div_lt_iff_lt_mul (by omega)]
      have h1 : limb * y ≤ (b - 1) * (b - 1) := Nat.mul_le_mul (by omega) (by omega)
      obtain ⟨d, rfl⟩ : ∃ d, b = d + 1 := ⟨b - 1, by omega⟩
      simp only [Nat.add_sub_cancel] at h1
      have h2 : (d + 1) * (d + 1) = d * d + d + d + 1 := by rw [Nat.add_mul, Nat.mul_add]; omega
      omega
    obtain ⟨out, e, hl, ho⟩ := mulRow_shape hb hlim acc m ((c + (x + limb * y)) / b) r (by simpa using h) (fun z hz => ha z (List.mem_cons_of_mem _ hz)) (fun z hz => hm z (List.mem_cons_of_mem _ hz)) hlt
    refine ⟨((c + (x + limb * y)) % b) :: out, by rw [List.cons_append, mulRow, e]; rfl, by simp [hl], fun z hz => ?_⟩
    rcases List.mem_cons.mp hz with rfl | hz
    · exact Nat.mod_lt _ (by omega)
    · exact ho z hz
theorem mulAll_num {b : Nat} (hb : 2 ≤ b) : ∀ (a m acc : List Nat), acc.length = m.length → (∀ x ∈ acc, x < b) → (∀ x ∈ m, x < b) → (∀ x ∈ a, x < b) →
    num b (mulAll b a m (acc ++ List.replicate a.length 0)) = num b acc + num b a * num b m ∧ ∀ x ∈ mulAll b a m (acc ++ List.replicate a.length 0), x < b
  | [], m, acc, h, ha, hm, hx => by simp [mulAll, num]; exact ha
  | x :: a, m, acc, h, ha, hm, hx => by
    have hxb := hx x List.mem_cons_self
    have hn := mulRow_num (b := b) (limb := x) acc m 0 a.length h
    obtain ⟨out, e, hl, ho⟩ := mulRow_shape hb hxb acc m 0 a.length h ha hm (by omega)
    cases out with
    | nil => simp at hl
    | cons y r =>
      obtain ⟨i1, i2⟩ := mulAll_num hb a m r (by simpa using hl) (fun z hz => ho z (List.mem_cons_of_mem _ hz)) hm (fun z hz => hx z (List.mem_cons_of_mem _ hz))
      rw [List.length_cons, mulAll, e]
      rw [e] at hn
      dsimp only [List.cons_append]
      rw [num, i1]
      rw [List.cons_append, num, num_app, num_rep] at hn
      constructor
      · rw [num, Nat.add_mul, Nat.mul_add, Nat.mul_assoc]
        simp only [Nat.mul_zero, Nat.add_zero] at hn
        omega
      · intro z hz
        rcases List.mem_cons.mp hz with rfl | hz
        · exact ho _ List.mem_cons_self
        · exact i2 z hz

section
variable {C : Cx} {k : Nat} {env : Env} {ρ : List (Str × V)} {σ : List (Str × Bool × List V)} {P : Out → Prop}
theorem Ex.forE {x y : Str} {px py : Pos} {kk : Nat} {tp pos : Pos} {iter : Expr} {body : List Stmt} {vs : List V} (hi : EvIter C k env ρ σ (.Tuple [.Name x px, .Name y py] kk tp) iter (enumItems vs)) (J : Nat → List (Str × V) → List (Str × Bool × List V) → Prop) (h0 : J 0 ρ σ)
    (step : ∀ i v ρ' σ', vs[i]? = some v → J i ρ' σ' → (σ'.all fun q => q.1 != x && q.1 != y) = true ∧ Exs C k env ((x, .int (i : Int)) :: (y, v) :: ρ') σ' body (Turn P (J (i + 1))))
    (fin : ∀ ρ' σ', J vs.length ρ' σ' → P (.next ρ' σ')) (hx : Kind env x := by first | exact .inl rfl | exact .inr ⟨rfl, rfl⟩) (hy : Kind env y := by first | exact .inl rfl | exact .inr ⟨rfl, rfl⟩) (hxy : (x == y) = false := by decide) (hs : ∀ x, foldedSetIterable iter env x = pure x := by intro _; rfl) :
    Ex C k env ρ σ (.For (.Tuple [.Name x px, .Name y py] kk tp) iter body [] pos) P := by
  have hlen : (enumItems vs).length = vs.length := by simp [enumItems]
  refine Ex.for hi J h0 (fun i ρ' σ' it hit hJ => ?_) (fun ρ' σ' hJ => fin ρ' σ' (by rwa [hlen] at hJ)) hs
  unfold enumItems at hit
  rw [List.getElem?_map, List.getElem?_zipIdx] at hit
  obtain ⟨p, hp, rfl⟩ := Option.map_eq_some_iff.mp hit
  obtain ⟨v, hv, rfl⟩ := Option.map_eq_some_iff.mp hp
  obtain ⟨ho, hb⟩ := step i v ρ' σ' hv hJ
  refine ⟨[(x, .int ((0 + i : Nat) : Int)), (y, v)], .pair, fun p hp => ?_, ?_, ?_, by rw [Nat.zero_add]; exact hb⟩
  · rcases List.mem_cons.mp hp with rfl | hp
    · exact hx
    · rw [List.mem_singleton.mp hp]; exact hy
  · have h1 := List.all_eq_true.mp ho
    refine List.all_eq_true.mpr fun p hp => List.all_eq_true.mpr fun q hq => ?_
    have h2 := h1 q hq
    rw [Bool.and_eq_true] at h2
    rcases List.mem_cons.mp hp with rfl | hp
    · exact h2.1
    · rw [List.mem_singleton.mp hp]; exact h2.2
  · have hne : x ≠ y := fun q => by subst q; simp at hxy
    simp [hne]
end

theorem zs_set (l : List Nat) (i x : Nat) : ((zs l).map V.int).set i (.int (x : Int)) = (zs (l.set i x)).map V.int := by simp [zs, List.map_set]
theorem set_app {α : Type} (l : List α) (x y : α) (r : List α) : (l ++ x :: r).set l.length y = l ++ y :: r := by
  rw [List.set_append]; simp
theorem get_app {α : Type} (l : List α) (x : α) (r : List α) : (l ++ x :: r)[l.length]? = some x := by simp

theorem mul_spec {C : Cx} (G : Gl C) (a b : List Nat) (w : Nat) (hw : 1 ≤ w) (hw2 : w ≤ 20) (ha : a.length ≤ 1000) (hb : b.length ≤ 1000) (la : ∀ x ∈ a, x < 2 ^ w) (lb : ∀ x ∈ b, x < 2 ^ w) :
    CallSpec C 2 (fval C "mul_school") [nl a, nl b, .int w] (nl (dig (2 ^ w) (num (2 ^ w) a * num (2 ^ w) b))) := by
  obtain ⟨d, h⟩ : ∃ d, recAt 27 = some d := ⟨_, rfl⟩
  obtain ⟨hd, hg⟩ := G.at h
  cases h
  have gn : Glo C "normal" (fval C "normal") := (G.at (i := 3) rfl).2
  have dn := callable_def (G.at (i := 3) rfl).1 gn
  have h2 := two_le_pow hw
  have hbig : 2 ^ w ≤ 1048576 := Nat.pow_le_pow_right (n := 2) (by decide) hw2
  refine CallSpec.def (k := 1) hd hg (names := [nm "a", nm "b", nm "w"]) (fun L ad cd => ?_) (fun _ _ _ => by intro v u x; rfl) rfl (by decide) (fun _ => rfl) rfl rfl rfl
  refine Exs.cons (Ex.own_tup false rfl (EvF.rep (n := ((a.length + b.length : Nat) : Int)) (EvE.list (EvEs.cons EvE.const_int EvEs.nil)) (EvE.cast (EvE.bin (EvE.lenN G (q := a) (EvE.name rfl) (by omega)) (EvE.lenN G (q := b) (EvE.name rfl) (by omega)) bin_add) (by congr 1)) (by omega) (by omega)) (EvEs.cons (ev_mask (EvE.name rfl) (by omega)) EvEs.nil) ?_)
  rw [Int.toNat_natCast, show (0 : Int) = ((0 : Nat) : Int) from rfl, zs_rep]
  obtain ⟨e1, e2⟩ := mulAll_num h2 a b (List.replicate b.length 0) (by simp) (fun x hx => by rw [(List.mem_replicate.mp hx).2]; omega) lb la
  rw [List.replicate_append_replicate, num_rep, Nat.zero_add] at e1
  rw [List.replicate_append_replicate] at e2
  rw [show b.length + a.length = a.length + b.length by omega] at e1 e2
  generalize hM : mulAll (2 ^ w) a b (List.replicate (a.length + b.length) 0) = M at e1 e2
  refine Exs.cons (Ex.forE (EvIter.enum G.enumerate (EvE.name rfl))
    (fun i ρ σ => ∃ pre row : List Nat, pre ++ mulAll (2 ^ w) (a.drop i) b row = M ∧ pre.length = i ∧ row.length = a.length + b.length - i ∧ Covers ρ [(nm "a", nl a), (nm "b", nl b), (nm "w", .int w), (nm "mask", .int (((2 ^ w : Nat) : Int) - 1))] ∧ σ = [(nm "found", false, (zs (pre ++ row)).map V.int)])
    ⟨[], _, hM, rfl, by simp, ⟨rfl, rfl, rfl, rfl, trivial⟩, rfl⟩ ?_ ?_)
  · rintro i v ρ σ hv ⟨pre, row, hM, hp, hr, cv, rfl⟩
    refine ⟨rfl, ?_⟩
    obtain ⟨x, hx, rfl⟩ : ∃ x, a[i]? = some x ∧ V.int (x : Int) = v := by
      simp only [zs, List.getElem?_map, Option.map_eq_some_iff] at hv
      obtain ⟨z, ⟨x, hx, rfl⟩, rfl⟩ := hv
      exact ⟨x, hx, rfl⟩
    have hi : i < a.length := (List.getElem?_eq_some_iff.mp hx).1
    have hxb : x < 2 ^ w := la x (List.mem_of_getElem? hx)
    rw [drop_cons hx, mulAll] at hM
    refine Exs.to [(nm "at", .int i), (nm "limb", .int x), (nm "a", nl a), (nm "b", nl b), (nm "w", .int w), (nm "mask", .int (((2 ^ w : Nat) : Int) - 1))] ⟨rfl, rfl, cv.1, cv.2.1, cv.2.2.1, cv.2.2.2.1, trivial⟩ ?_
    refine Exs.cons (Ex.assign EvE.const_int ?_)
    refine Exs.cons (Ex.forE (EvIter.enum G.enumerate (EvE.name rfl))
      (fun j ρ σ => ∃ (out rest : List Nat) (c : Nat), out ++ mulRow (2 ^ w) x rest (b.drop j) c = mulRow (2 ^ w) x row b 0 ∧ out.length = j ∧ rest.length = row.length - j ∧ Covers ρ [(nm "carry", .int (c : Int)), (nm "at", .int i), (nm "limb", .int x), (nm "a", nl a), (nm "b", nl b), (nm "w", .int w), (nm "mask", .int (((2 ^ w : Nat) : Int) - 1))] ∧ σ = [(nm "found", false, (zs (pre ++ (out ++ rest))).map V.int)])
      ⟨[], row, 0, rfl, rfl, rfl, ⟨rfl, rfl, rfl, rfl, rfl, rfl, rfl, trivial⟩, rfl⟩ ?_ ?_)
    · rintro j v ρ σ hv ⟨out, rest, c, hout, ho, hrest, cv, rfl⟩
      refine ⟨rfl, ?_⟩
      obtain ⟨y, hy, rfl⟩ : ∃ y, b[j]? = some y ∧ V.int (y : Int) = v := by
        simp only [zs, List.getElem?_map, Option.map_eq_some_iff] at hv
        obtain ⟨z, ⟨x, hx, rfl⟩, rfl⟩ := hv
        exact ⟨x, hx, rfl⟩
      have hj : j < b.length := (List.getElem?_eq_some_iff.mp hy).1
      have hyb : y < 2 ^ w := lb y (List.mem_of_getElem? hy)
      obtain ⟨z, rest', rfl⟩ : ∃ z rest', rest = z :: rest' := by
        cases rest with
        | nil => simp at hrest; omega
        | cons z r => exact ⟨z, r, rfl⟩
      rw [drop_cons hy, mulRow] at hout
      refine Exs.to [(nm "spot", .int j), (nm "other", .int y), (nm "carry", .int (c : Int)), (nm "at", .int i), (nm "limb", .int x), (nm "a", nl a), (nm "b", nl b), (nm "w", .int w), (nm "mask", .int (((2 ^ w : Nat) : Int) - 1))] ⟨rfl, rfl, cv.1, cv.2.1, cv.2.2.1, cv.2.2.2.1, cv.2.2.2.2.1, cv.2.2.2.2.2.1, cv.2.2.2.2.2.2.1, trivial⟩ ?_
      have eat : (i : Int) + (j : Int) = (((pre ++ out).length : Nat) : Int) := by rw [List.length_append, hp, ho]; omega
      have efound : pre ++ (out ++ z :: rest') = (pre ++ out) ++ z :: rest' := by rw [List.append_assoc]
      have hlen : (pre ++ out ++ z :: rest').length ≤ 1000000 := by simp at hrest ⊢; omega
      have hxy : x * y < 2 ^ w * 2 ^ w := by
        refine Nat.lt_of_le_of_lt (Nat.mul_le_mul (Nat.le_of_lt hxb) (Nat.le_refl y)) (Nat.mul_lt_mul_of_pos_left hyb (by omega))
      rw [efound]
      refine Exs.cons (Ex.aug (v := .int ((c + (z + x * y) : Nat) : Int)) (a := .int (c : Int)) (b := .int ((z + x * y : Nat) : Int)) rfl (EvE.cast (EvE.bin (EvE.item_own (v := .int z) List.mem_cons_self (EvE.bin (EvE.name rfl) (EvE.name rfl) bin_add) (by omega) (by rw [eat, Int.toNat_natCast]; exact item_int (zs_get (get_app _ _ _))) (nat_len _ hlen)) (EvE.bin (EvE.name rfl) (EvE.name rfl) (bin_mul (mulOk_small (small_pow (by omega)) (small_pow (by omega))))) bin_add) (by congr 1)) (by have := in_add (C := C) (k := 1) (a := (c : Int)) (b := ((z + x * y : Nat) : Int)); simpa using this) ?_)
      refine Exs.cons (Ex.setitem [] [] rfl (v := .int (((c + (z + x * y)) % 2 ^ w : Nat) : Int)) (EvE.cast (EvE.bin (EvE.name rfl) (EvE.name rfl) bin_and) (by rw [and_mask])) (EvE.bin (EvE.name rfl) (EvE.name rfl) bin_add) (by omega) (by rw [eat, Int.toNat_natCast]; simp [zs_len]) (nat_len _ hlen) ?_)
      rw [eat, Int.toNat_natCast, zs_set, set_app]
      refine Exs.cons (Ex.aug (v := .int (((c + (z + x * y)) / 2 ^ w : Nat) : Int)) rfl (EvE.name rfl) (by have := in_shr (C := C) (k := 1) (a := ((c + (z + x * y) : Nat) : Int)) (n := (w : Int)) (by omega); rwa [Int.toNat_natCast, shr_nat] at this) (Exs.nil ?_))
      refine ⟨out ++ [(c + (z + x * y)) % 2 ^ w], rest', _, by simpa using hout, by simp [ho], by simp at hrest; omega, ⟨rfl, rfl, rfl, rfl, rfl, rfl, rfl, trivial⟩, by simp⟩
    · rintro ρ σ ⟨out, rest, c, hout, ho, hrest, cv, rfl⟩
      rw [List.drop_of_length_le (by simp [zs_len])] at hout
      simp [zs_len] at ho hrest
      obtain ⟨z, rest', rfl⟩ : ∃ z rest', rest = z :: rest' := by
        cases rest with
        | nil => simp at hrest; omega
        | cons z r => exact ⟨z, r, rfl⟩
      rw [mulRow] at hout
      have eat : (i : Int) + (b.length : Int) = (((pre ++ out).length : Nat) : Int) := by rw [List.length_append, hp, ho]; omega
      have efound : pre ++ (out ++ z :: rest') = (pre ++ out) ++ z :: rest' := by rw [List.append_assoc]
      have hlen : (pre ++ out ++ z :: rest').length ≤ 1000000 := by simp at hrest ⊢; omega
      rw [efound]
      refine Exs.to _ cv ?_
      refine Exs.cons (Ex.setitem [] [] rfl (EvE.name rfl) (EvE.bin (EvE.name rfl) (EvE.lenN G (q := b) (EvE.name rfl) (by omega)) bin_add) (by omega) (by rw [eat, Int.toNat_natCast]; simp [zs_len]) (nat_len _ hlen) ?_)
      rw [eat, Int.toNat_natCast, zs_set, set_app]
      refine Exs.nil ?_
      rw [← hout] at hM
      cases out with
      | nil =>
        refine ⟨pre ++ [c], rest', by simpa using hM, by simp [hp], by simp at ho hrest; omega, ⟨rfl, rfl, rfl, rfl, trivial⟩, by simp⟩
      | cons y out =>
        refine ⟨pre ++ [y], out ++ c :: rest', by simpa using hM, by simp [hp], by simp at ho hrest ⊢; omega, ⟨rfl, rfl, rfl, rfl, trivial⟩, by simp⟩
  · rintro ρ σ ⟨pre, row, hM, hp, hr, cv, rfl⟩
    rw [List.drop_of_length_le (by simp [zs_len]), mulAll] at hM
    rw [hM]
    refine Exs.freeze [] [] rfl (Exs.cons (Ex.ret (EvE.call (EvE.glob gn) dn (EvEs.cons (EvE.name rfl) EvEs.nil) ((normal_spec G (zs M) (by rw [zs_len, ← hM]; simp [hp, hr, zs_len] at *; omega)).le (by decide))) ?_))
    show V.list _ = _
    rw [normI_zs, norm_dig h2 M e2, e1]
end Mine

end

section
open PySem PySem.W PyProof.Rows
namespace Mine

def MulF (C : Cx) (f : Value) (w : Nat) : Prop := ∀ m n, m < 2 ^ 1000 → n < 2 ^ 1000 → CallSpec C 2 f [nl (dig (2 ^ w) m), nl (dig (2 ^ w) n), .int w] (nl (dig (2 ^ w) (m * n)))
theorem mul_f {C : Cx} (G : Gl C) {w : Nat} (hw : 1 ≤ w) (hw2 : w ≤ 20) : MulF C (fval C "mul_school") w := fun m n hm hn => by
  have h2 := two_le_pow hw
  have := mul_spec G (dig (2 ^ w) m) (dig (2 ^ w) n) w hw hw2 (dig_len h2 1000 m hm) (dig_len h2 1000 n hn) (dig_lt h2 m) (dig_lt h2 n)
  rwa [num_dig h2, num_dig h2] at this
theorem dig_one {b : Nat} (h : 2 ≤ b) : dig b 1 = [1] := by
  rw [dig_pos h (by omega), Nat.mod_eq_of_lt (by omega), Nat.div_eq_of_lt (by omega), dig_zero]

theorem le_mul_pow {F S m : Nat} (hF : 1 ≤ F) (hS : 1 ≤ S) : F ≤ F * S ^ m := Nat.le_mul_of_pos_right _ (Nat.pow_pos hS)
theorem le_mul_pow' {F S m : Nat} (hF : 1 ≤ F) (hS : 1 ≤ S) (hm : 0 < m) : S ≤ F * S ^ m := by
  obtain ⟨j, rfl⟩ : ∃ j, m = j + 1 := ⟨m - 1, by omega⟩
  rw [Nat.pow_succ, ← Nat.mul_assoc]
  exact Nat.le_mul_of_pos_left _ (Nat.mul_pos hF (Nat.pow_pos hS))

theorem power_spec {C : Cx} (G : Gl C) {w : Nat} (hw : 1 ≤ w) (hw2 : w ≤ 20) {f : Value} (hf : MulF C f w) (hc : Callable C f) (base many : Nat) (hb : 1 ≤ base) (hb2 : base < 2 ^ 1000) (hlt : base ^ many < 2 ^ 1000) :
    CallSpec C 3 (fval C "power_of_count") [.int base, .int many, .int w, .val f] (nl (dig (2 ^ w) (base ^ many))) := by
  obtain ⟨d, h⟩ : ∃ d, recAt 22 = some d := ⟨_, rfl⟩
  obtain ⟨hd, hg⟩ := G.at h
  cases h
  have gn : Glo C "nat_of" (fval C "nat_of") := (G.at (i := 4) rfl).2
  have dn := callable_def (G.at (i := 4) rfl).1 gn
  have h2 := two_le_pow hw
  refine CallSpec.def (k := 2) hd hg (names := [nm "base", nm "many", nm "w", nm "mul"]) (fun L ad cd => ?_) (fun _ _ _ => by intro v u x y; rfl) rfl (by decide) (fun _ => rfl) rfl rfl rfl
  refine Exs.cons (Ex.assign_tup rfl (EvE.tuple (EvEs.cons (v := nl (dig (2 ^ w) 1)) (EvE.cast (EvE.list (EvEs.cons EvE.const_int EvEs.nil)) (by rw [dig_one h2]; rfl)) (EvEs.cons (EvE.call (EvE.glob gn) dn (EvEs.cons (EvE.name rfl) (EvEs.cons (EvE.name rfl) EvEs.nil)) ((nat_of_spec G base w hw (by omega) hb2).le (by decide))) EvEs.nil)) (sizeLine_ge (Nat.le_of_ble_eq_true rfl))) ?_)
  refine Exs.cons (Ex.mono (P := fun o => ∃ ρ, o = .next ρ [] ∧ Covers ρ [(nm "found", nl (dig (2 ^ w) (base ^ many)))]) ?loop ?tail)
  case tail =>
    rintro o ⟨ρ, rfl, cv⟩
    exact Exs.to _ cv (Exs.cons (Ex.ret (EvE.name rfl) rfl))
  refine Ex.while (fun m ρ σ => ∃ F S : Nat, F * S ^ m = base ^ many ∧ 1 ≤ F ∧ 1 ≤ S ∧ Covers ρ [(nm "found", nl (dig (2 ^ w) F)), (nm "square", nl (dig (2 ^ w) S)), (nm "many", .int (m : Int)), (nm "w", .int (w : Int)), (nm "mul", .val f)] ∧ σ = []) many ⟨1, base, by rw [Nat.one_mul], Nat.le_refl _, hb, ⟨rfl, rfl, rfl, rfl, rfl, trivial⟩, rfl⟩ ?_
  rintro m ρ σ ⟨F, S, hFS, hF, hS, cv, rfl⟩
  refine ⟨_, EvT.to _ cv (EvT.cmp (EvE.name rfl) EvE.const_int cmp_gt), fun q => ?_, fun q => ?_⟩
  · have hm : 0 < m := by simpa using q
    have lF : F < 2 ^ 1000 := by have := le_mul_pow (m := m) hF hS; omega
    have lS : S < 2 ^ 1000 := by have := le_mul_pow' hF hS hm; omega
    obtain ⟨F', hF', hF1, hodd⟩ : ∃ F', F' * (S * S) ^ (m / 2) = base ^ many ∧ 1 ≤ F' ∧ F' = if m % 2 = 1 then F * S else F := by
      refine ⟨_, ?_, ?_, rfl⟩
      · have e : (S * S) ^ (m / 2) = S ^ (2 * (m / 2)) := by rw [← Nat.pow_two, ← Nat.pow_mul]
        rw [e]
        by_cases h : m % 2 = 1
        · rw [if_pos h, Nat.mul_assoc, Nat.mul_comm S, ← Nat.pow_succ, show (2 * (m / 2)).succ = m by omega, hFS]
        · rw [if_neg h, show 2 * (m / 2) = m by omega, hFS]
      · split
        · exact Nat.mul_pos hF hS
        · exact hF
    refine Exs.to _ cv (Exs.cons (Ex.mono (P := fun o => ∃ ρ, o = .next ρ [] ∧ Covers ρ [(nm "found", nl (dig (2 ^ w) F')), (nm "square", nl (dig (2 ^ w) S)), (nm "many", .int (m : Int)), (nm "w", .int (w : Int)), (nm "mul", .val f)]) ?odd ?rest))
    case odd =>
      refine Ex.if (c := decide (m % 2 = 1)) (EvT.cast (EvT.cmp (EvE.bin (EvE.name rfl) EvE.const_int (bin_mod (by decide))) EvE.const_int cmp_eq) ?_) (fun q => ?_) fun q => Exs.nil ?_
      · rw [show ((m : Int).fmod 2) = ((m % 2 : Nat) : Int) from mod_nat m 2]
        generalize m % 2 = z
        by_cases h : z = 1
        · simp [h]
        · simp [h]; omega
      · rw [if_pos (of_decide_eq_true q)] at hodd
        subst hodd
        exact Exs.cons (Ex.assign (EvE.call (EvE.name rfl) hc (EvEs.cons (EvE.name rfl) (EvEs.cons (EvE.name rfl) (EvEs.cons (EvE.name rfl) EvEs.nil))) (hf F S lF lS)) (Exs.nil ⟨_, rfl, ⟨rfl, rfl, rfl, rfl, rfl, trivial⟩⟩))
      · rw [if_neg (of_decide_eq_false q)] at hodd
        subst hodd
        exact ⟨_, rfl, ⟨rfl, rfl, rfl, rfl, rfl, trivial⟩⟩
    rintro o ⟨ρ, rfl, cv⟩
    refine Exs.to _ cv ?_
    refine Exs.cons (Ex.assign (v := .int ((m / 2 : Nat) : Int)) (EvE.cast (EvE.bin (EvE.name rfl) EvE.const_int (bin_div (by decide) (by decide))) (by rw [show ((m : Int).fdiv 2) = ((m / 2 : Nat) : Int) from div_nat m 2])) ?_)
    refine Exs.cons (Ex.if (c := decide (0 < m / 2)) (EvT.cast (EvT.cmp (EvE.name rfl) EvE.const_int cmp_gt) (by generalize m / 2 = z; by_cases h : 0 < z <;> simp [h])) (fun q => ?_) fun q => Exs.nil (Exs.nil ?_))
    · refine Exs.cons (Ex.assign (EvE.call (EvE.name rfl) hc (EvEs.cons (EvE.name rfl) (EvEs.cons (EvE.name rfl) (EvEs.cons (EvE.name rfl) EvEs.nil))) (hf S S lS lS)) (Exs.nil (Exs.nil ?_)))
      exact ⟨m / 2, by omega, F', S * S, hF', hF1, Nat.mul_pos hS hS, ⟨rfl, rfl, rfl, rfl, rfl, trivial⟩, rfl⟩
    · have hz : m / 2 = 0 := by have := of_decide_eq_false q; omega
      refine ⟨m / 2, by omega, F', S, ?_, hF1, hS, ⟨rfl, rfl, rfl, rfl, rfl, trivial⟩, rfl⟩
      rw [hz, Nat.pow_zero] at hF' ⊢
      exact hF'
  · have hm : m = 0 := by simpa using q
    subst hm
    rw [Nat.pow_zero, Nat.mul_one] at hFS
    subst hFS
    exact ⟨ρ, rfl, cv.1, trivial⟩

def prodP : List (Nat × Nat) → Nat
  | [] => 1
  | p :: l => p.1 ^ p.2 * prodP l
theorem prodP_app : ∀ l m : List (Nat × Nat), prodP (l ++ m) = prodP l * prodP m
  | [], m => by simp [prodP]
  | p :: l, m => by rw [List.cons_append, prodP, prodP_app l m, prodP, Nat.mul_assoc]
theorem prodP_pos : ∀ l : List (Nat × Nat), (∀ p ∈ l, 1 ≤ p.1) → 1 ≤ prodP l
  | [], _ => Nat.le_refl _
  | p :: l, h => Nat.mul_pos (Nat.pow_pos (h p List.mem_cons_self)) (prodP_pos l fun q hq => h q (List.mem_cons_of_mem _ hq))
def pv (p : Nat × Nat) : V := .tuple [.int (p.1 : Int), .int (p.2 : Int)]
def pvs (l : List (Nat × Nat)) : V := .list (l.map pv)

theorem product_spec {C : Cx} (G : Gl C) {w : Nat} (hw : 1 ≤ w) (hw2 : w ≤ 20) {f : Value} (hf : MulF C f w) (hc : Callable C f) : ∀ (n : Nat) (l : List (Nat × Nat)), l.length ≤ n → n ≤ 1000 → (∀ p ∈ l, 1 ≤ p.1 ∧ p.1 < 2 ^ 1000) → prodP l < 2 ^ 1000 →
    CallSpec C (n + 4) (fval C "product_of_powers") [pvs l, .int w, .val f] (nl (dig (2 ^ w) (prodP l))) := by
  intro n
  induction n using Nat.strongRecOn with
  | ind n ih =>
  intro l hl hn hp hlt
  obtain ⟨d, h⟩ : ∃ d, recAt 23 = some d := ⟨_, rfl⟩
  obtain ⟨hd, hg⟩ := G.at h
  have gs : Glo C "product_of_powers" (fval C "product_of_powers") := (G.at (i := 23) rfl).2
  have ds := callable_def (G.at (i := 23) rfl).1 gs
  have gp : Glo C "power_of_count" (fval C "power_of_count") := (G.at (i := 22) rfl).2
  have dp := callable_def (G.at (i := 22) rfl).1 gp
  cases h
  have h2 := two_le_pow hw
  refine CallSpec.def (k := n + 3) hd hg (names := [nm "pairs", nm "w", nm "mul"]) (fun L ad cd => ?_) (fun _ _ _ => by intro v u x; rfl) rfl (by decide) (fun _ => rfl) rfl rfl rfl
  have hlen : (l.map pv).length < 2 ^ 62 := by simp; omega
  have hlen' : (((l.map pv).length : Nat) : Int) = (l.length : Int) := by simp
  refine Exs.cons (Ex.if (c := decide (l.length = 0)) (EvT.cast (EvT.cmp (EvE.len G (EvE.name rfl) hlen) EvE.const_int cmp_eq) (by rw [hlen']; cases l <;> simp; omega)) (fun q => ?_) fun q => Exs.nil ?_)
  · have h0 : l = [] := List.length_eq_zero_iff.mp (of_decide_eq_true q)
    subst h0
    refine Exs.cons (Ex.ret (EvE.list (EvEs.cons EvE.const_int EvEs.nil)) ?_)
    show V.list _ = _
    rw [prodP, dig_one h2]; rfl
  have hne : l.length ≠ 0 := of_decide_eq_false q
  refine Exs.cons (Ex.if (c := decide (l.length = 1)) (EvT.cast (EvT.cmp (EvE.len G (EvE.name rfl) hlen) EvE.const_int cmp_eq) (by rw [hlen']; generalize l.length = z; by_cases h : z = 1 <;> simp [h]; omega)) (fun q => ?_) fun q => Exs.nil ?_)
  · obtain ⟨⟨p, e⟩, rfl⟩ := List.length_eq_one_iff.mp (of_decide_eq_true q)
    obtain ⟨hp1, hp2⟩ := hp _ List.mem_cons_self
    rw [prodP, prodP, Nat.mul_one] at hlt ⊢
    refine Exs.cons (Ex.ret (EvE.call (EvE.glob gp) dp (EvEs.cons (v := .int (p : Int)) (EvE.item_tup (EvE.item (v := pv (p, e)) (EvE.name rfl) EvE.const_int (by decide) rfl hlen) EvE.const_int (by decide) rfl (by simp)) (EvEs.cons (v := .int (e : Int)) (EvE.item_tup (EvE.item (v := pv (p, e)) (EvE.name rfl) EvE.const_int (by decide) rfl hlen) EvE.const_int (by decide) rfl (by simp)) (EvEs.cons (EvE.name rfl) (EvEs.cons (EvE.name rfl) EvEs.nil)))) ((power_spec G hw hw2 hf hc p e hp1 hp2 hlt).le (by omega))) rfl)
  · have hn1 : l.length ≠ 1 := of_decide_eq_false q
    refine Exs.cons (Ex.assign (v := .int ((l.length / 2 : Nat) : Int)) (EvE.cast (EvE.bin (EvE.len G (EvE.name rfl) hlen) EvE.const_int (bin_div (by decide) (by decide))) (by rw [hlen', show ((l.length : Int).fdiv 2) = ((l.length / 2 : Nat) : Int) from div_nat l.length 2])) ?_)
    have hsz : (l.map pv).length ≤ sizeLine := sizeLine_ge (by simp; omega)
    have sp : l.take (l.length / 2) ++ l.drop (l.length / 2) = l := List.take_append_drop _ _
    have hpr := prodP_app (l.take (l.length / 2)) (l.drop (l.length / 2))
    rw [sp] at hpr
    have p1 := prodP_pos (l.take (l.length / 2)) fun q hq => (hp q (List.mem_of_mem_take hq)).1
    have p2 := prodP_pos (l.drop (l.length / 2)) fun q hq => (hp q (List.mem_of_mem_drop hq)).1
    have b1 : prodP (l.take (l.length / 2)) < 2 ^ 1000 := Nat.lt_of_le_of_lt (Nat.le_mul_of_pos_right _ p2) (hpr ▸ hlt)
    have b2 : prodP (l.drop (l.length / 2)) < 2 ^ 1000 := Nat.lt_of_le_of_lt (Nat.le_mul_of_pos_left _ p1) (hpr ▸ hlt)
    refine Exs.cons (Ex.ret (EvE.call (EvE.name rfl) hc (EvEs.cons (EvE.call (EvE.glob gs) ds (EvEs.cons (v := pvs (l.take (l.length / 2))) (EvE.cast (EvE.upto (EvE.name rfl) (EvE.name rfl) (by omega) hsz) (by rw [Int.toNat_natCast, ← List.map_take]; rfl)) (EvEs.cons (EvE.name rfl) (EvEs.cons (EvE.name rfl) EvEs.nil))) ((ih (n - 1) (by omega) (l.take (l.length / 2)) (by rw [List.length_take]; omega) (by omega) (fun q hq => hp q (List.mem_of_mem_take hq)) b1).le (by omega)))
      (EvEs.cons (EvE.call (EvE.glob gs) ds (EvEs.cons (v := pvs (l.drop (l.length / 2))) (EvE.cast (EvE.from (EvE.name rfl) (EvE.name rfl) (by omega) (by rw [Int.toNat_natCast, List.length_map]; omega) hsz) (by rw [Int.toNat_natCast, ← List.map_drop]; rfl)) (EvEs.cons (EvE.name rfl) (EvEs.cons (EvE.name rfl) EvEs.nil))) ((ih (n - 1) (by omega) (l.drop (l.length / 2)) (by rw [List.length_drop]; omega) (by omega) (fun q hq => hp q (List.mem_of_mem_drop hq)) b2).le (by omega)))
      (EvEs.cons (EvE.name rfl) EvEs.nil))) ((hf _ _ b1 b2).le (by omega))) ?_)
    show V.list _ = _
    rw [hpr]
end Mine

end

section
open PySem PySem.W PyProof.Rows
namespace Mine

def pairOf (n k p : Nat) : Option (Nat × Nat) := if leg p k + leg p (n - k) < leg p n then some (p, leg p n - leg p k - leg p (n - k)) else none
def pairsL (n k : Nat) : List (Nat × Nat) := (sieveL n).filterMap (pairOf n k)
def ways (n k : Nat) : Nat := prodP (pairsL n k)

theorem sieveAt_mem (n : Nat) : ∀ i, ∀ p ∈ (sieveAt n i).2, 2 ≤ p ∧ p ≤ i + 1
  | 0, p, h => by cases h
  | i + 1, p, h => by
    have ih := sieveAt_mem n i p
    rw [sieveAt] at h
    split at h
    · rcases List.mem_append.mp h with q | q
      · have := ih q; omega
      · rw [List.mem_singleton.mp q]; omega
    · have := ih h; omega

theorem binomial_spec {C : Cx} (G : Gl C) {w : Nat} (hw : 1 ≤ w) (hw2 : w ≤ 20) {f : Value} (hf : MulF C f w) (hc : Callable C f) (n k : Nat) (hn : n ≤ 900) (hk : k ≤ n) (hlt : ways n k < 2 ^ 1000) :
    CallSpec C (n + 5) (fval C "binomial") [.int n, .int k, .int w, .val f] (nl (dig (2 ^ w) (ways n k))) := by
  obtain ⟨d, h⟩ : ∃ d, recAt 25 = some d := ⟨_, rfl⟩
  obtain ⟨hd, hg⟩ := G.at h
  have gc : Glo C "need_count" (fval C "need_count") := (G.at (i := 21) rfl).2
  have dc := callable_def (G.at (i := 21) rfl).1 gc
  have gs : Glo C "sieve" (fval C "sieve") := (G.at (i := 20) rfl).2
  have ds := callable_def (G.at (i := 20) rfl).1 gs
  have ge : Glo C "factorial_exponent" (fval C "factorial_exponent") := (G.at (i := 24) rfl).2
  have de := callable_def (G.at (i := 24) rfl).1 ge
  have gp : Glo C "product_of_powers" (fval C "product_of_powers") := (G.at (i := 23) rfl).2
  have dp := callable_def (G.at (i := 23) rfl).1 gp
  cases h
  have hmem : ∀ p ∈ sieveL n, 2 ≤ p ∧ p ≤ 1000 := fun p hp => by have := sieveAt_mem n (n - 1) p hp; omega
  have hsl : (sieveL n).length ≤ n := by have := (sieveAt_len n (n - 1)).2; unfold sieveL; omega
  refine CallSpec.def (k := n + 4) hd hg (names := [nm "n", nm "k", nm "w", nm "mul"]) (fun L ad cd => ?_) (fun _ _ _ => by intro v u x y; rfl) rfl (by decide) (fun _ => rfl) rfl rfl rfl
  refine Exs.cons (Ex.expr (EvE.call (EvE.glob gc) dc (EvEs.cons (EvE.name rfl) EvEs.nil) ((need_count_spec G n).le (by omega))) ?_)
  refine Exs.cons (Ex.expr (EvE.call (EvE.glob gc) dc (EvEs.cons (EvE.name rfl) EvEs.nil) ((need_count_spec G k).le (by omega))) ?_)
  refine Exs.cons (Ex.if (c := false) (EvT.cast (EvT.cmp (EvE.name rfl) (EvE.name rfl) cmp_gt) (by simp; omega)) (fun q => by cases q) fun _ => Exs.nil ?_)
  refine Exs.cons (Ex.own true (EvF.list EvEs.nil) ?_)
  refine Exs.cons (Ex.mono (P := fun o => ∃ ρ, o = .next ρ [(nm "pairs", true, (pairsL n k).map pv)] ∧ Covers ρ [(nm "w", .int (w : Int)), (nm "mul", .val f)]) ?loop ?tail)
  case tail =>
    rintro o ⟨ρ, rfl, cv⟩
    refine Exs.to _ cv (Exs.freeze [] [] rfl (Exs.cons (Ex.ret (EvE.call (EvE.glob gp) dp (EvEs.cons (v := pvs (pairsL n k)) (EvE.name rfl) (EvEs.cons (EvE.name rfl) (EvEs.cons (EvE.name rfl) EvEs.nil))) ((product_spec G hw hw2 hf hc n (pairsL n k) (Nat.le_trans (List.length_filterMap_le _ _) hsl) (by omega) (fun p hp => ?_) hlt).le (by omega))) rfl)))
    obtain ⟨q, hq, e⟩ := List.mem_filterMap.mp hp
    unfold pairOf at e
    split at e
    · cases e
      obtain ⟨h1, h2⟩ := hmem q hq
      exact ⟨by omega, small_pow (by omega)⟩
    · cases e
  refine Ex.for1 (EvIter.list (EvE.call (EvE.glob gs) ds (EvEs.cons (EvE.name rfl) EvEs.nil) ((sieve_spec G n (by omega)).le (by omega))))
    (fun i ρ σ => ∃ acc : List (Nat × Nat), acc ++ ((sieveL n).drop i).filterMap (pairOf n k) = pairsL n k ∧ acc.length ≤ i ∧ Covers ρ [(nm "n", .int (n : Int)), (nm "k", .int (k : Int)), (nm "w", .int (w : Int)), (nm "mul", .val f)] ∧ σ = [(nm "pairs", true, acc.map pv)])
    ⟨[], rfl, Nat.le_refl _, ⟨rfl, rfl, rfl, rfl, trivial⟩, rfl⟩ ?_ ?_
  · rintro i ρ σ v hv ⟨acc, hacc, hal, cv, rfl⟩
    refine ⟨rfl, ?_⟩
    obtain ⟨p, hp, rfl⟩ : ∃ x, (sieveL n)[i]? = some x ∧ V.int (x : Int) = v := by
      simp only [zs, List.getElem?_map, Option.map_eq_some_iff] at hv
      obtain ⟨z, ⟨x, hx, rfl⟩, rfl⟩ := hv
      exact ⟨x, hx, rfl⟩
    obtain ⟨h1, h2⟩ := hmem p (List.mem_of_getElem? hp)
    have hi : i < (sieveL n).length := (List.getElem?_eq_some_iff.mp hp).1
    refine Exs.to [(nm "prime", .int p), (nm "n", .int (n : Int)), (nm "k", .int (k : Int)), (nm "w", .int (w : Int)), (nm "mul", .val f)] ⟨rfl, cv.1, cv.2.1, cv.2.2.1, cv.2.2.2.1, trivial⟩ ?_
    rw [drop_cons hp, List.filterMap_cons, pairOf] at hacc
    have sp : ∀ m : Nat, CallSpec C (n + 4) (fval C "factorial_exponent") [.int m, .int p] (.int (leg p m : Nat)) := fun m => (leg_spec G m p h1 (by omega)).le (by omega)
    refine Exs.cons (Ex.assign (v := .int ((leg p n : Int) - leg p k - leg p (n - k))) (EvE.bin (EvE.bin (EvE.call (EvE.glob ge) de (EvEs.cons (EvE.name rfl) (EvEs.cons (EvE.name rfl) EvEs.nil)) (sp n)) (EvE.call (EvE.glob ge) de (EvEs.cons (EvE.name rfl) (EvEs.cons (EvE.name rfl) EvEs.nil)) (sp k)) bin_sub) (EvE.call (EvE.glob ge) de (EvEs.cons (v := .int ((n - k : Nat) : Int)) (EvE.cast (EvE.bin (EvE.name rfl) (EvE.name rfl) bin_sub) (by congr 1; omega)) (EvEs.cons (EvE.name rfl) EvEs.nil)) (sp (n - k))) bin_sub) ?_)
    refine Exs.cons (Ex.if (c := decide (leg p k + leg p (n - k) < leg p n)) (EvT.cast (EvT.cmp (EvE.name rfl) EvE.const_int cmp_gt) (by by_cases h : leg p k + leg p (n - k) < leg p n <;> simp [h] <;> omega)) (fun q => ?_) fun q => Exs.nil (Exs.nil ?_))
    · have hlt := of_decide_eq_true q
      rw [if_pos hlt] at hacc
      refine Exs.cons (Ex.append [] [] rfl (v := pv (p, leg p n - leg p k - leg p (n - k))) (EvE.cast (EvE.tuple (EvEs.cons (EvE.name rfl) (EvEs.cons (EvE.name rfl) EvEs.nil)) (sizeLine_ge (Nat.le_of_ble_eq_true rfl))) ?_) (by simp; exact sizeLine_ge (by omega)) (Exs.nil (Exs.nil ?_)))
      · unfold pv
        congr 3
        congr 1
        simp; omega
      · exact ⟨acc ++ [(p, leg p n - leg p k - leg p (n - k))], by simpa using hacc, by simp; omega, ⟨rfl, rfl, rfl, rfl, trivial⟩, by simp⟩
    · have hlt := of_decide_eq_false q
      rw [if_neg hlt] at hacc
      exact ⟨acc, hacc, by omega, ⟨rfl, rfl, rfl, rfl, trivial⟩, rfl⟩
  · rintro ρ σ ⟨acc, hacc, hal, cv, rfl⟩
    rw [List.drop_of_length_le (by simp [zs_len]), List.filterMap_nil, List.append_nil] at hacc
    subst hacc
    exact ⟨ρ, rfl, cv.2.2.1, cv.2.2.2.1, trivial⟩

section
variable {C : Cx} {k : Nat} {env : Env} {ρ : List (Str × V)} {σ : List (Str × Bool × List V)} {P : Out → Prop}
theorem enumItems_eq (vs : List V) : enumItems vs = vs.zipIdx.map fun p => Item.pair (.int (p.2 : Nat)) p.1 := rfl
theorem EvE.enumV {x y : Str} {px py : Pos} {kk : Nat} {tp : Pos} {iter elt : Expr} {scope : Scope} {pos : Pos} {cl : List (Str × Addr)} (vs : List V) (F : Nat → V → V) (hi : EvIter C k env ρ σ (.Tuple [.Name x px, .Name y py] kk tp) iter (enumItems vs))
    (helt : ∀ (i : Nat) v, vs[i]? = some v → ∀ D, EvE C k (compEnvC scope cl D env) ((x, .int (i : Int)) :: (y, v) :: seen scope ρ) [] elt (F i v)) (hsz : vs.length ≤ 1000000)
    (hclos : closureFor scope env = pure cl := by rfl) (hfree : FreeIn env (compEnvC scope cl 0 env) (frees scope) := by first | exact trivial | exact ⟨⟨rfl, rfl, rfl⟩, trivial⟩ | exact ⟨⟨rfl, rfl, rfl⟩, ⟨rfl, rfl, rfl⟩, trivial⟩) (hx : scope.names.lookup x = some .local := by rfl) (hy : scope.names.lookup y = some .local := by rfl) (hxy : (x == y) = false := by decide)
    (hcell : ∀ y ∈ scope.names, y.2 ≠ .cell := by decide) (hkind : scope.kind = .function := by rfl) (hnames : ∀ y ∈ scope.names, y.2 = .local → scope.names.lookup y.1 = some .local := by decide)
    (hs : ∀ x, foldedSetIterable iter env x = pure x := by intro _; rfl) :
    EvE C k env ρ σ (.ListComp elt [⟨.Tuple [.Name x px, .Name y py] kk tp, iter, [], 0⟩] scope pos) (.list (vs.zipIdx.map fun p => F p.2 p.1)) := by
  have hne : x ≠ y := fun q => by subst q; simp at hxy
  have := EvE.comp (elt := elt) (ifs := []) (pos := pos) (cl := cl) (fun it => match it with | .pair (.int z) v => some (F z.toNat v) | _ => none) hi hclos hfree (fun it hit => ?_) (sizeLine_ge (by simpa [enumItems] using hsz)) hcell hkind hnames hs
  · rwa [enumItems_eq, List.filterMap_map, show ((fun it => match it with | Item.pair (.int z) v => some (F z.toNat v) | _ => none) ∘ fun p : V × Nat => Item.pair (.int (p.2 : Nat)) p.1) = (fun p => some (F p.2 p.1)) from rfl, List.filterMap_eq_map'] at this
  · obtain ⟨⟨v, i⟩, hv, rfl⟩ := List.mem_map.mp hit
    have hv' : vs[i]? = some v := by
      have := List.mem_zipIdx_iff_getElem?.mp hv
      simpa using this
    exact ⟨[(x, .int (i : Int)), (y, v)], true, .pair, by simp [hx, hy], by simp [hne], fun D => ⟨rfl, fun _ => ⟨_, rfl, helt i v hv' D⟩, fun h => by cases h⟩⟩

/-- no item passes the test -/
theorem EvE.enumNone {x y : Str} {px py : Pos} {kk : Nat} {tp : Pos} {iter elt test : Expr} {scope : Scope} {pos : Pos} {cl : List (Str × Addr)} (vs : List V) (hi : EvIter C k env ρ σ (.Tuple [.Name x px, .Name y py] kk tp) iter (enumItems vs))
    (helt : ∀ (i : Nat) v, vs[i]? = some v → ∀ D, EvT C k (compEnvC scope cl D env) ((x, .int (i : Int)) :: (y, v) :: seen scope ρ) [] test false) (hsz : vs.length ≤ 1000000)
    (hclos : closureFor scope env = pure cl := by rfl) (hfree : FreeIn env (compEnvC scope cl 0 env) (frees scope) := by first | exact trivial | exact ⟨⟨rfl, rfl, rfl⟩, trivial⟩ | exact ⟨⟨rfl, rfl, rfl⟩, ⟨rfl, rfl, rfl⟩, trivial⟩ | exact ⟨⟨rfl, rfl, rfl⟩, ⟨rfl, rfl, rfl⟩, ⟨rfl, rfl, rfl⟩, trivial⟩) (hx : scope.names.lookup x = some .local := by rfl) (hy : scope.names.lookup y = some .local := by rfl) (hxy : (x == y) = false := by decide)
    (hcell : ∀ y ∈ scope.names, y.2 ≠ .cell := by decide) (hkind : scope.kind = .function := by rfl) (hnames : ∀ y ∈ scope.names, y.2 = .local → scope.names.lookup y.1 = some .local := by decide)
    (hs : ∀ x, foldedSetIterable iter env x = pure x := by intro _; rfl) :
    EvE C k env ρ σ (.ListComp elt [⟨.Tuple [.Name x px, .Name y py] kk tp, iter, [test], 0⟩] scope pos) (.list []) := by
  have hne : x ≠ y := fun q => by subst q; simp at hxy
  have := EvE.comp (elt := elt) (ifs := [test]) (pos := pos) (cl := cl) (fun it => none) hi hclos hfree (fun it hit => ?_) (sizeLine_ge (by simpa [enumItems] using hsz)) hcell hkind hnames hs
  · rwa [show ∀ l : List Item, List.filterMap (fun _ => (none : Option V)) l = [] from fun l => by induction l <;> simp_all] at this
  · obtain ⟨⟨v, i⟩, hv, rfl⟩ := List.mem_map.mp hit
    have hv' : vs[i]? = some v := by
      have := List.mem_zipIdx_iff_getElem?.mp hv
      simpa using this
    exact ⟨[(x, .int (i : Int)), (y, v)], false, .pair, by simp [hx, hy], by simp [hne], fun D => ⟨helt i v hv' D, fun h => (by cases h), fun _ => rfl⟩⟩
end

theorem row_sum (w : Nat) : ∀ (l : List Nat) (j : Nat), ((l.zipIdx j).map fun p => ((p.1 * 2 ^ (w * p.2) : Nat) : Int)).sum = ((2 ^ (w * j) * num (2 ^ w) l : Nat) : Int)
  | [], j => by simp [num]
  | x :: l, j => by
    rw [List.zipIdx_cons, List.map_cons, List.sum_cons, row_sum w l (j + 1), num]
    dsimp only
    have e : 2 ^ (w * (j + 1)) * num (2 ^ w) l = 2 ^ (w * j) * (2 ^ w * num (2 ^ w) l) := by rw [Nat.mul_succ, Nat.pow_add, Nat.mul_assoc]
    rw [e, ← Int.natCast_add, Nat.mul_add, Nat.mul_comm x]

theorem law_number_spec {C : Cx} (G : Gl C) (l : List Nat) (w : Nat) (hw2 : w ≤ 20) (hl : l.length ≤ 45) (hlt : ∀ x ∈ l, x < 2 ^ w) : CallSpec C 1 (fval C "_law_number") [nl l, .int w] (.int (num (2 ^ w) l : Nat)) := by
  obtain ⟨d, h⟩ : ∃ d, recAt 31 = some d := ⟨_, rfl⟩
  obtain ⟨hd, hg⟩ := G.at h
  cases h
  have hbig : 2 ^ w ≤ 1048576 := Nat.pow_le_pow_right (n := 2) (by decide) hw2
  refine CallSpec.def (k := 0) hd hg (names := [nm "row", nm "w"]) (fun L ad cd => ?_) (fun _ _ _ => by intro v u; rfl) rfl (by decide) (fun _ => rfl) rfl rfl rfl
  refine Exs.cons (Ex.ret (EvE.call (EvE.builtin G.sum boot_sum') callable_builtin (EvEs.cons (v := il (l.zipIdx.map fun p => ((p.1 * 2 ^ (w * p.2) : Nat) : Int))) (EvE.cast (EvE.enumV ((zs l).map V.int) (fun i v => match v with | .int z => .int ((z.toNat * 2 ^ (w * i) : Nat) : Int) | v => v) (EvIter.enum G.enumerate (EvE.name rfl)) (fun i v hv D => ?elt) (by simp [zs_len]; omega)) ?eq) EvEs.nil) call_sum) ?_)
  case elt =>
    obtain ⟨x, hx, rfl⟩ : ∃ x, l[i]? = some x ∧ V.int (x : Int) = v := by
      simp only [zs, List.getElem?_map, Option.map_eq_some_iff] at hv
      obtain ⟨z, ⟨x, hx, rfl⟩, rfl⟩ := hv
      exact ⟨x, hx, rfl⟩
    have hi : i < l.length := (List.getElem?_eq_some_iff.mp hx).1
    have hxb := hlt x (List.mem_of_getElem? hx)
    have hwi : w * i ≤ 20 * 45 := Nat.mul_le_mul hw2 (by omega)
    have hp : 2 ^ (w * i) < 2 ^ 1000 := Nat.pow_lt_pow_right (by decide) (by omega)
    refine EvE.cast (EvE.bin (EvE.name rfl) (EvE.cast (EvE.bin EvE.const_int (EvE.cast (EvE.bin (EvE.name rfl) (EvE.name rfl) (bin_mul (mulOk_small (small_pow (by omega)) (small_pow (by omega))))) (v := .int ((w * i : Nat) : Int)) (by push_cast; rfl)) (bin_pow (by omega) (by omega) (by decide))) (v := .int ((2 ^ (w * i) : Nat) : Int)) (by rw [pow_eq])) (bin_mul (mulOk_small (small_pow (by omega)) hp))) ?_
    show V.int _ = V.int _
    rw [Int.toNat_natCast]; push_cast; rfl
  case eq =>
    show V.list _ = V.list _
    simp [zs, List.zipIdx_map, Function.comp_def]
  · show V.int _ = V.int _
    rw [row_sum]; simp
end Mine

end

section
open PySem PySem.W PyProof.Rows
namespace Mine

section
variable {C : Cx} {k : Nat} {env : Env} {s₀ s : Shared} {X₀ : Addr → Prop} {ρ : List (Str × V)} {σa : Owned} {m cm : Str → Option Value}

theorem XX_own {a : Addr} {x : Str} {fl : Bool} {xs : List V} : XX env X₀ ((x, a, fl, xs) :: σa) = XX env (fun b => X₀ b ∨ b = a) σa := by
  funext b
  apply propext
  constructor
  · rintro (q | q | q | ⟨t, ht, rfl⟩)
    · exact .inl (.inl q)
    · exact .inr (.inl q)
    · exact .inr (.inr (.inl q))
    · rcases List.mem_cons.mp ht with rfl | ht
      · exact .inl (.inr rfl)
      · exact .inr (.inr (.inr ⟨t, ht, rfl⟩))
  · rintro ((q | rfl) | q | q | ⟨t, ht, rfl⟩)
    · exact .inl q
    · exact .inr (.inr (.inr ⟨_, List.mem_cons_self, rfl⟩))
    · exact .inr (.inl q)
    · exact .inr (.inr (.inl q))
    · exact .inr (.inr (.inr ⟨t, List.mem_cons_of_mem _ ht, rfl⟩))

theorem StM.adoptL {a : Addr} {x : Str} {xs : List V} {items : Array Value} (S : StM C env s₀ (fun b => X₀ b ∨ b = a) ρ σa m cm s) (hh : Has env m cm x (.ref a)) (h0 : s₀.heap.get? a = none) (hx0 : ¬ X₀ a)
    (hl : s.heap.IsList a items) (hr : Reps (XX env (fun b => X₀ b ∨ b = a) σa) s.heap xs items.toList) (hnew : ∀ t ∈ σa, t.1 ≠ x) :
    StM C env s₀ X₀ ρ ((x, a, false, xs) :: σa) m cm s := by
  refine { S with vars := fun y v e => ?_, owns := fun t ht => ?_, apart := ?_, x0 := fun b h => S.x0 b (.inl h) }
  · rw [XX_own]; exact S.vars y v e
  · rw [XX_own]
    rcases List.mem_cons.mp ht with rfl | ht
    · exact ⟨hh, ⟨h0, hx0⟩, items, ⟨hl, fun q => by cases q⟩, hr⟩
    · obtain ⟨h, f, r⟩ := S.owns t ht
      exact ⟨h, ⟨f.1, fun q => f.2 (.inl q)⟩, r⟩
  · refine List.pairwise_cons.mpr ⟨fun t ht => ⟨fun q => hnew t ht q.symm, fun q => ?_⟩, S.apart⟩
    obtain ⟨_, f, _⟩ := S.owns t ht
    exact f.2 (.inr q.symm)

theorem StM.unown {a : Addr} {x : Str} {fl : Bool} {xs : List V} (S : StM C env s₀ X₀ ρ ((x, a, fl, xs) :: σa) m cm s) : StM C env s₀ (fun b => X₀ b ∨ b = a) ρ σa m cm s := by
  have ap := List.pairwise_cons.mp S.apart
  refine { S with vars := fun y v e => ?_, owns := fun t ht => ?_, apart := ap.2, x0 := fun b h => ?_ }
  · rw [← XX_own (x := x) (fl := fl) (xs := xs)]; exact S.vars y v e
  · rw [← XX_own (x := x) (fl := fl) (xs := xs)]
    obtain ⟨h, f, r⟩ := S.owns t (List.mem_cons_of_mem _ ht)
    exact ⟨h, ⟨f.1, fun q => q.elim f.2 fun q => (ap.1 t ht).2 q.symm⟩, r⟩
  · rcases h with h | rfl
    · exact S.x0 b h
    · obtain ⟨_, _, items, ⟨⟨o, e, _⟩, _⟩, _⟩ := S.owns _ List.mem_cons_self
      exact ⟨o, e⟩

/-- x[i] = e where x is the frame's one own list; the address is told -/
theorem setitem_run {x : Str} {xp ip pos : Pos} {e ie : Expr} {v : V} {xs : List V} {i : Int} {a : Addr} {A : Around} {E : Value → Shared → Prop} {Q : Flow → Shared → Prop} (rm : Room A k) (S : StM C env s₀ X₀ ρ [(x, a, false, xs)] m cm s)
    (hv : EvE C k env ρ [(x, false, xs)] e v) (hi : EvE C k env ρ [(x, false, xs)] ie (.int i)) (h0 : 0 ≤ i) (hn : i.toNat < xs.length) (hlen : xs.length < 2 ^ 62)
    (h : ∀ s', StM C env s₀ X₀ ρ [(x, a, false, xs.set i.toNat v)] m cm s' → (∃ h' tk, s' = { s with heap := h', toks := tk } ∧ ∀ b o, b ≠ a → s.heap.get? b = some o → h'.get? b = some o) → Q .next s')
    (hd : (x == ("__debug__" : Str)) = false := by decide)
    (hs : swapsWith e (some (.Subscript (.Name x xp) ie ip)) pos.line env = pure false := by rfl) :
    wpAny (model C.prog C.w) A (exec (.Assign [.Subscript (.Name x xp) ie ip] e pos) env) Q E s := by
  have f := S.fe
  obtain ⟨hh, _, items, ⟨hl, _⟩, hr⟩ := S.owns (x, a, false, xs) (by simp)
  refine wpAny_Assign_Subscript (hs := hs) (hv A E _ _ s _ rm rfl f fun s₁ y k₁ r₁ => ?_)
  have SM₁ := S.grow k₁
  have f₁ := f.keeps (kept_of k₁)
  refine wpAny_Name (sees_load (SM₁.sees hh) f₁.ok rfl ?_) hd
  refine hi A E _ _ s₁ _ rm rfl f₁ fun s₂ iv k₂ r₂ => ?_
  obtain ⟨t, rfl⟩ := r₂
  have kk := kept_of (keeps_trans k₁ k₂)
  have hsz : items.size = xs.length := by rw [← hr.length]; simp
  refine wpAny_setItem_list (IsList.kept kk hl) h0 (by omega) (by rw [hsz]; omega) fun h' hl' hs' => ?_
  obtain ⟨SM', ch⟩ := (SM₁.grow k₂).write [] [] rfl hs' hl' (fun q => by cases q) (ys := xs.set i.toNat v) (by rw [Array.toList_setIfInBounds]; exact (hr.keeps kk).set _ (r₁.keeps (kept_of k₂)))
  obtain ⟨h₂, tk, e₂, k₂'⟩ := keeps_trans k₁ k₂
  refine h _ SM' ⟨h', tk, by rw [e₂], fun b o nb e => ?_⟩
  rw [hs'.2 b nb]
  exact kk b o e
end

/-- statements that only read, up to a return -/
def RetE (C : Cx) (k : Nat) (env : Env) (ρ : List (Str × V)) (σ : List (Str × Bool × List V)) (st : List Stmt) (v : V) : Prop :=
  ∀ (A : Around) (E : Value → Shared → Prop) (X : Addr → Prop) (σa : Owned) (s : Shared) (Q : Flow → Shared → Prop), Room A k → own σa = σ → Fe C env X ρ σa s.heap →
    (∀ s' val, Keeps s s' → Rep X s'.heap v val → Q (.ret val) s') → wpAny (model C.prog C.w) A (execs st env) Q E s
section
variable {C : Cx} {k : Nat} {env : Env} {ρ : List (Str × V)} {σ : List (Str × Bool × List V)}
theorem RetE.ret {e : Expr} {pos : Pos} {rest : List Stmt} {v : V} (h : EvE C k env ρ σ e v) : RetE C k env ρ σ (.Return (some e) pos :: rest) v := by
  intro A E X σa s Q rm hσ f hq
  exact wpAny_execs_cons (wpAny_Return_some (h A E X σa s _ rm hσ f fun s' val k₁ r => hq s' val k₁ r))
theorem RetE.if {t : Expr} {a rest : List Stmt} {pos : Pos} {c : Bool} {v : V} (ht : EvT C k env ρ σ t c) (ha : c = true → RetE C k env ρ σ a v) (hb : c = false → RetE C k env ρ σ rest v) : RetE C k env ρ σ (.If t a [] pos :: rest) v := by
  intro A E X σa s Q rm hσ f hq
  refine wpAny_execs_cons (wpAny_If (ht A E X σa s _ rm hσ f fun s₁ k₁ => ?_))
  cases c with
  | true =>
    exact ha rfl A E X σa s₁ _ rm hσ (f.keeps (kept_of k₁)) fun s' val k₂ r => hq s' val (keeps_trans k₁ k₂) r
  | false =>
    exact wpAny_execs_nil (hb rfl A E X σa s₁ _ rm hσ (f.keeps (kept_of k₁)) fun s' val k₂ r => hq s' val (keeps_trans k₁ k₂) r)
end

theorem RetE.use {C : Cx} {k : Nat} {env : Env} {s₀ s : Shared} {X₀ : Addr → Prop} {ρ : List (Str × V)} {m cm : Str → Option Value} {x : Str} {a : Addr} {ys : List V} {st : List Stmt} {v : V} {A : Around} {E : Value → Shared → Prop} {Q : Flow → Shared → Prop}
    (S : StM C env s₀ X₀ ρ [(x, a, false, ys)] m cm s) (rm : Room A k) (key : RetE C k env ρ [(x, false, ys)] st v) (h : ∀ s' val, Keeps s s' → Rep (XX env X₀ [(x, a, false, ys)]) s'.heap v val → Q (.ret val) s') : wpAny (model C.prog C.w) A (execs st env) Q E s :=
  key A E _ _ s _ rm rfl S.fe h

/-- a call that writes into its first argument, a list -/
def CallW (C : Cx) (k : Nat) (f : Value) (xs args : List V) (v : V) (ys : List V) : Prop :=
  ∀ (A : Around) (E : Value → Shared → Prop) (X : Addr → Prop) (s : Shared) (a : Addr) (items : Array Value) (vals : List Value) (Q : Value → Shared → Prop), Room A k → TopH C s.heap → TopH C (hideAll s.heap [a]) → (∀ b, X b → ∃ o, s.heap.get? b = some o) → X a →
    s.heap.IsList a items → Reps X s.heap xs items.toList → Reps X s.heap args vals →
    (∀ h' tk val items', (∀ b o, b ≠ a → s.heap.get? b = some o → h'.get? b = some o) → h'.IsList a items' → Reps X h' ys items'.toList → Rep X h' v val → Q val { s with heap := h', toks := tk }) →
    wpAny (model C.prog C.w) A (PySem.call f (.ref a :: vals)) Q E s

/-- what is drawn -/
def drawV (ns : List Nat) (c many : Nat) : Nat := if c < ns.length then ns[c]?.getD 0 % many else (9 * (c + 1) + (c + 1) / 2 + 8) % many

def BodyW (C : Cx) (k : Nat) (env : Env) (body : List Stmt) (ρ : List (Str × V)) (x : Str) (xs ys : List V) (v : V) : Prop :=
  ∀ (A : Around) (E : Value → Shared → Prop) (s₀ : Shared) (X₀ : Addr → Prop) (m cm : Str → Option Value) (s : Shared) (a : Addr) (Q : Flow → Shared → Prop), Room A k → StM C env s₀ X₀ ρ [(x, a, false, xs)] m cm s →
    (∀ s₁ s' m' cm' val, StM C env s₀ X₀ ρ [(x, a, false, ys)] m' cm' s₁ → (∃ h' tk, s₁ = { s with heap := h', toks := tk } ∧ ∀ b o, b ≠ a → s.heap.get? b = some o → h'.get? b = some o) → Keeps s₁ s' → Rep (XX env X₀ [(x, a, false, ys)]) s'.heap v val → Q (.ret val) s') →
    wpAny (model C.prog C.w) A (execs body env) Q E s

theorem CallW.def {C : Cx} {k : Nat} {d : DefRec} (hd : d ∈ C.defs) {f : Value} (g : Glo C d.name f) {x : Str} {names : List Str} {xs args ys : List V} {v : V}
    (hbody : ∀ L a cd, BodyW C k (envOfC d.name d.scope L a cd) d.body (names.zip args) x xs ys v)
    (hbind : ∀ pm code doc, ForArgs (args.length + 1) fun vals => bindArgs (Calls.docDef d.name d.params d.body d.scope pm code doc) ⟨vals, []⟩ = pure ((x :: names).zip vals))
    (hlen : args.length = names.length) (hnd : (x :: names).Nodup)
    (hkind : (x :: names).all (fun x => d.scope.names.lookup x == some .local) = true)
    (hco : d.scope.isCoroutine = false) (hgen : d.scope.isGenerator = false) (hk : d.scope.kind = .function) : CallW C (k + 1) f xs args v ys := by
  intro A E X s a items vals Q rm T T' dom hXa hl hrs hr h
  obtain ⟨fa, o, pm, code, doc, h1, h2, h3, h4⟩ := T.fn d hd
  have e : f = .ref fa := by unfold Glo at g; rw [h1] at g; exact (Option.some.inj g).symm
  subst e
  have hvl : vals.length = args.length := hr.length
  have hnl : vals.length = names.length := hvl.trans hlen
  have kd : ∀ y ∈ x :: names, d.scope.names.lookup y = some .local := fun y hy => by simpa using List.all_eq_true.mp hkind y hy
  refine wpAny_call ?_
  refine call_cells (binds := (x :: names).zip (.ref a :: vals)) (by have := rm.depth; omega) h2 h3 T.nolimit h4 (ForArgs.at (hbind pm code doc) (by simp [hvl])) ?_ (fun h₁ tk F Y => ?_) hco hgen hk
  · intro y hy
    exact .inl (kd y.1 (List.of_mem_zip (show (y.1, y.2) ∈ (x :: names).zip (.ref a :: vals) from hy)).1)
  · have hzn : (((x :: names).zip (.ref a :: vals)).map (·.1)) = x :: names := by rw [List.map_fst_zip (by simp [hnl])]
    have hag : ∃ oa, s.heap.get? a = some oa := by obtain ⟨o, e, _⟩ := hl; exact ⟨o, e⟩
    obtain ⟨oa, ea⟩ := hag
    have hx1 : ∀ b, XX (envOfC d.name d.scope s.heap.objs.size fa code) (fun b => X b ∧ b ≠ a) [(x, a, false, xs)] b → X b ∨ s.heap.get? b = none := fun b q => by
      rcases q with q | q | ⟨n, q⟩ | ⟨t, ht, q⟩
      · exact .inl q.1
      · exact .inr (Heap.get?_none_of_le (Nat.le_of_eq q.symm))
      · exact .inr (Heap.get?_none_of_le (Nat.le_of_lt (Y.above n b (mem_of_lookup q))))
      · rw [List.mem_singleton.mp ht] at q; exact .inl (q ▸ hXa)
    have back : ∀ b o, ¬ X b → IsSeq o → s.heap.get? b = some o → ¬ XX (envOfC d.name d.scope s.heap.objs.size fa code) (fun b => X b ∧ b ≠ a) [(x, a, false, xs)] b := fun b o nb _ e q => by
      rcases hx1 b q with q | q
      · exact nb q
      · rw [e] at q; cases q
    have has : ∀ y u, (y, u) ∈ (x :: names).zip (Value.ref a :: vals) → Has (envOfC d.name d.scope s.heap.objs.size fa code) (bindL (envOfC d.name d.scope s.heap.objs.size fa code).kindOf ((x :: names).zip (.ref a :: vals)) fun _ => none) (bindC (envOfC d.name d.scope s.heap.objs.size fa code).kindOf ((x :: names).zip (.ref a :: vals)) fun _ => none) y u := fun y u hm => by
      have hb := bind_has (kd := (envOfC d.name d.scope s.heap.objs.size fa code).kindOf) (m := fun _ => none) (cm := fun _ => none) (by rw [hzn]; exact hnd) hm
      have q := kd y (List.of_mem_zip hm).1
      exact .inl ⟨q, hb.1 q⟩
    have S : StM C (envOfC d.name d.scope s.heap.objs.size fa code) { s with heap := hideAll s.heap [a] } (fun b => X b ∧ b ≠ a) (names.zip args) [(x, a, false, xs)] (bindL (envOfC d.name d.scope s.heap.objs.size fa code).kindOf ((x :: names).zip (.ref a :: vals)) fun _ => none) (bindC (envOfC d.name d.scope s.heap.objs.size fa code).kindOf ((x :: names).zip (.ref a :: vals)) fun _ => none) { s with heap := h₁, toks := tk } := by
      refine { top := T', ok := ⟨hk, rfl, rfl⟩, call := ⟨⟨⟨h₁, tk, rfl⟩, F.ns, fun b o e => F.keep b o (of_hideAll _ e), Nat.le_trans (Nat.le_of_eq (hideAll_size _ _)) F.above⟩, Y.cell, Y.apart, Y.above⟩, vars := fun y w hx => ?_, owns := fun t ht => ?_, apart := List.pairwise_singleton _ _, x0 := fun b q => let ⟨o', e'⟩ := dom b q.1; ⟨o', F.keep b o' e'⟩ }
      · obtain ⟨i, hi1, hi2⟩ := lookup_zip hx
        obtain ⟨u, hu, ru⟩ := hr.get hi2
        have hm : (y, u) ∈ names.zip vals := by
          have hi1' := List.getElem?_eq_some_iff.mp hi1
          have hu' := List.getElem?_eq_some_iff.mp hu
          obtain ⟨q1, rfl⟩ := hi1'
          obtain ⟨q2, rfl⟩ := hu'
          refine List.mem_iff_getElem.mpr ⟨i, by simp; omega, by simp⟩
        exact ⟨u, has y u (by rw [List.zip_cons_cons]; exact List.mem_cons_of_mem _ hm), ru.mono (fun b o' _ _ e' => F.keep b o' e') fun b o nb sq e => back b o nb sq e⟩
      · rw [List.mem_singleton.mp ht]
        refine ⟨has x _ (by rw [List.zip_cons_cons]; exact List.mem_cons_self), ⟨hideAll_none [a] List.mem_cons_self, fun q => q.2 rfl⟩, items, ⟨?_, fun q => by cases q⟩, hrs.mono (fun b o' _ _ e' => F.keep b o' e') fun b o nb sq e => back b o nb sq e⟩
        obtain ⟨o, e, r⟩ := hl
        exact ⟨o, F.keep _ _ e, r⟩
    refine hbody s.heap.objs.size fa code (A.deeper (envOfC d.name d.scope s.heap.objs.size fa code)) _ _ _ _ _ _ a _ rm.deeper S fun s₁ s' m' cm' val S₁ hs₁ k₂ rv => ?_
    obtain ⟨h', tk', rfl, hk'⟩ := hs₁
    obtain ⟨h'', tk'', rfl, hk''⟩ := k₂
    obtain ⟨_, _, items', ⟨hl', _⟩, hr'⟩ := S₁.owns _ List.mem_cons_self
    have toX : ∀ b, X b → XX (envOfC d.name d.scope s.heap.objs.size fa code) (fun b => X b ∧ b ≠ a) [(x, a, false, ys)] b := fun b q => by
      by_cases hb : b = a
      · exact .inr (.inr (.inr ⟨_, List.mem_cons_self, hb.symm⟩))
      · exact .inl ⟨q, hb⟩
    exact h h'' tk'' val items' (fun b o nb e => hk'' b o (hk' b o nb (F.keep b o e))) (IsList.kept hk'' hl') ((hr'.keeps hk'').weak toX) (rv.weak toX)

theorem drawn_spec {C : Cx} (G : Gl C) (ns : List Nat) (c many : Nat) (hm : 1 ≤ many) (hns : ns.length ≤ 1000) (hc : c ≤ 1000) :
    CallW C 1 (fval C "_law_drawn") [.int (c : Int), nl ns] [.int (many : Int)] (.int (drawV ns c many : Nat)) [.int ((c + 1 : Nat) : Int), nl ns] := by
  obtain ⟨d, h⟩ : ∃ d, recAt 29 = some d := ⟨_, rfl⟩
  obtain ⟨hd, g⟩ := G.at h
  cases h
  refine CallW.def (k := 0) hd g (x := nm "well") (names := [nm "many"]) (fun L fa cd => ?_) (fun _ _ _ => by intro v u; rfl) rfl (by decide) rfl rfl rfl rfl
  intro A E s₀ X₀ m cm s a Q rm S h
  refine wpAny_execs_cons (setitem_run rm S (EvE.bin (EvE.item_own (fl := false) (v := .int (c : Int)) List.mem_cons_self EvE.const_int (by decide) rfl (by simp)) EvE.const_int bin_add) EvE.const_int (by decide) (by simp) (by simp) fun s₁ S₁ h₁ => ?_)
  have S₂ : StM C _ s₀ X₀ [(nm "many", .int (many : Int))] [(nm "well", a, false, [.int ((c + 1 : Nat) : Int), nl ns])] _ _ s₁ := S₁
  refine RetE.use (v := .int (drawV ns c many : Nat)) S₂ rm (RetE.if (c := decide (c < ns.length)) (EvT.cast (EvT.cmp (EvE.item_own (fl := false) (v := .int ((c + 1 : Nat) : Int)) List.mem_cons_self EvE.const_int (by decide) rfl (by simp)) (EvE.lenN G (q := ns) (EvE.item_own (fl := false) List.mem_cons_self EvE.const_int (by decide) rfl (by simp)) (by omega)) cmp_le) (by by_cases h : c < ns.length <;> simp [h]; omega; omega))
    (fun q => RetE.ret ?one) (fun q => RetE.ret ?two)) fun s' val k₁ r => h s₁ s' _ _ val S₂ h₁ k₁ r
  case one =>
    have hlt := of_decide_eq_true q
    obtain ⟨z, hz⟩ : ∃ z, ns[c]? = some z := ⟨_, List.getElem?_eq_getElem hlt⟩
    rw [drawV, if_pos hlt, hz]
    exact EvE.cast (EvE.bin (EvE.item (v := .int (z : Int)) (EvE.item_own (fl := false) (v := nl ns) List.mem_cons_self EvE.const_int (by decide) rfl (by simp)) (EvE.cast (EvE.bin (EvE.item_own (fl := false) (v := .int ((c + 1 : Nat) : Int)) List.mem_cons_self EvE.const_int (by decide) rfl (by simp)) EvE.const_int bin_sub) (v := .int (c : Int)) (by congr 1; omega)) (by omega) (item_int (zs_get hz)) (nat_len ns (by omega))) (EvE.name rfl) (bin_mod (by omega))) (by rw [mod_nat]; rfl)
  case two =>
    have hlt := of_decide_eq_false q
    rw [drawV, if_neg hlt]
    have ew : ∀ {kk : Nat} {e1 e2 e3 : Pos} {env : Env}, EvE C 0 env [(nm "many", .int (many : Int))] [(nm "well", false, [.int ((c + 1 : Nat) : Int), nl ns])] (.Subscript (.Name (nm "well") e1) (.Constant (.int 0) kk e2) e3) (.int ((c + 1 : Nat) : Int)) := EvE.item_own (fl := false) List.mem_cons_self EvE.const_int (by decide) rfl (by simp)
    exact EvE.cast (EvE.bin (EvE.bin (EvE.bin (EvE.bin EvE.const_int ew (bin_mul (mulOk_small (a := 9) (small_pow (by omega)) (small_pow (by omega))))) (EvE.bin ew EvE.const_int (bin_div (by decide) (by decide))) bin_add) EvE.const_int bin_add) (EvE.name rfl) (bin_mod (by omega))) (by
      have e : ((c + 1 : Nat) : Int).fdiv 2 = (((c + 1) / 2 : Nat) : Int) := div_nat (c + 1) 2
      rw [e, ← mod_nat]
      congr 2)
end Mine

end

section
open PySem PySem.W PyProof.Rows
namespace Mine

/-- an expression with a number, that may change the frame's own lists -/
def EvS (C : Cx) (k : Nat) (env : Env) (ρ : List (Str × V)) (σ : List (Str × Bool × List V)) (e : Expr) (i : Int) (σ' : List (Str × Bool × List V)) : Prop :=
  ∀ (A : Around) (E : Value → Shared → Prop) (s₀ : Shared) (X₀ : Addr → Prop) (σa : Owned) (s : Shared) (Q : Value → Shared → Prop), Room A k → own σa = σ → St C env s₀ X₀ ρ σa s →
    (∀ s' t σb, own σb = σ' → St C env s₀ X₀ ρ σb s' → Chg (MX env σa) s.heap s'.heap → Sub σb σa s.heap → Q (.int i t) s') → wpAny (model C.prog C.w) A (eval e env) Q E s

section
variable {C : Cx} {k : Nat} {env : Env} {ρ : List (Str × V)} {σ σ' : List (Str × Bool × List V)} {P : Out → Prop}
theorem EvS.bin {op : Operator} {l r : Expr} {pos : Pos} {a b c : Int} (hl : EvE C k env ρ σ l (.int a)) (hr : EvS C k env ρ σ r b σ') (hs : BinSpec C k op (.int a) (.int b) (.int c)) : EvS C k env ρ σ (.BinOp l op r pos) c σ' := by
  intro A E s₀ X₀ σa s Q rm hσ S h
  refine wpAny_BinOp (hl A E _ σa s _ rm hσ S.fe fun s₁ lv k₁ r₁ => hr A E s₀ X₀ σa s₁ _ rm hσ (S.grow k₁) fun s₂ t σb hσb S₂ ch sub => ?_)
  obtain ⟨u, rfl⟩ := r₁
  have f := S₂.fe
  refine hs A E _ s₂ _ _ _ rm f.top f.dom ⟨u, rfl⟩ ⟨t, rfl⟩ fun s₃ val k₃ r₃ => ?_
  obtain ⟨u', rfl⟩ := r₃
  refine h s₃ u' σb hσb (S₂.grow k₃) (chg_trans (chg_trans (Chg.of_keeps k₁) Sub.refl ch) (sub_trans (X := MX env σa) Sub.refl (Chg.of_keeps k₁) sub) (Chg.of_keeps k₃)) (sub_trans (X := MX env σa) Sub.refl (Chg.of_keeps k₁) sub)

theorem own_single {σa : Owned} {x : Str} {fl : Bool} {xs : List V} (h : own σa = [(x, fl, xs)]) : ∃ a, σa = [(x, a, fl, xs)] := by
  obtain ⟨τ1, a, τ2, rfl, h1, h2⟩ := own_split (σ1 := []) (σ2 := []) h
  have e1 : τ1 = [] := by unfold own at h1; simpa using h1
  have e2 : τ2 = [] := by unfold own at h2; simpa using h2
  subst e1 e2
  exact ⟨a, rfl⟩

theorem EvS.call {fn x : Str} {fp xp pos : Pos} {e : Expr} {f : Value} {xs ys : List V} {i j : Int} (hf : ∀ u, EvE C k env ((x, .val u) :: ρ) [(x, false, xs)] (.Name fn fp) (.val f)) (hc : Callable C f) (he : ∀ u, EvE C k env ((x, .val u) :: ρ) [(x, false, xs)] e (.int j))
    (hw : CallW C k f xs [.int j] (.int i) ys) (hx : (x == ("__debug__" : Str)) = false := by decide)
    (hst : ((starEach [.Name x xp, e] env).any (·.1)) = false := by rfl) (hse : starEach [e] env = (false, eval e env) :: starEach [] env := by rfl) :
    EvS C k env ρ [(x, false, xs)] (.Call (.Name fn fp) [.Name x xp, e] [] pos) i [(x, false, ys)] := by
  intro A E s₀ X₀ σa s Q rm hσ S h
  obtain ⟨a, rfl⟩ := own_single hσ
  obtain ⟨m, cm, SM⟩ := S
  obtain ⟨hh, ⟨h0, hx0⟩, _⟩ := SM.owns _ List.mem_cons_self
  have hvars : ∀ y w, List.lookup y ((x, V.val (.ref a)) :: ρ) = some w → ∃ val, Has env m cm y val ∧ Rep (XX env X₀ [(x, a, false, xs)]) s.heap w val := by
    intro y w e
    rw [List.lookup_cons] at e
    by_cases hy : (y == x) = true
    · rw [hy] at e; cases e; rw [eq_of_beq hy]; exact ⟨_, hh, rfl⟩
    · have hy' : (y == x) = false := by simpa using hy
      rw [hy'] at e; exact SM.vars y w e
  have SM' : StM C env s₀ X₀ ((x, .val (.ref a)) :: ρ) [(x, a, false, xs)] m cm s := { SM with vars := hvars }
  refine wp_call (hf (.ref a)) hc (EvEs.cons (EvE.name (by rw [List.lookup_cons, beq_self_eq_true]) hx) (EvEs.cons (he _) EvEs.nil hse) ) ⟨by simp, hst⟩ rm rfl SM'.fe fun s₂ vals k₂ r₂ => ?_
  obtain ⟨v1, r, rfl, hv1, v2, r', rfl, ⟨t, rfl⟩, hr'⟩ := r₂
  cases hr'
  cases (show v1 = .ref a from hv1)
  have S₂ := SM.grow k₂
  have f₂ := S₂.fe
  obtain ⟨_, _, items, ⟨hl, _⟩, hr⟩ := S₂.owns _ List.mem_cons_self
  have hXa : XX env X₀ [(x, a, false, xs)] a := .inr (.inr (.inr ⟨_, List.mem_cons_self, rfl⟩))
  have seq : ∃ o, s₂.heap.get? a = some o ∧ IsSeq o := by obtain ⟨o, e, _, n, hd⟩ := hl; exact ⟨o, e, _, _, hd⟩
  obtain ⟨oa, ea, sa⟩ := seq
  have hfx : ¬ FX env a := fun q => by
    rcases q with q | ⟨n, q⟩
    · exact ns_not_seq S₂.call.toInCall.ns (q ▸ ea) sa
    · exact cell_not_seq (S₂.call.cell n a q) ea sa
  refine hw A E _ s₂ a items [.int j t] Q rm f₂.top ?_ f₂.dom hXa hl hr ⟨_, _, rfl, ⟨t, rfl⟩, rfl⟩ fun h' tk val items' hk hl' hr' rv => ?_
  · exact SM.top.keeps fun b o e => hideAll_get [a] (kept_of S₂.keeps b o e) fun q => by rw [List.mem_singleton.mp q, h0] at e; cases e
  · obtain ⟨u, rfl⟩ := rv
    have S₃ := (S₂.unown.touch (Z := fun b => b = a) (h' := h') tk (fun b o nb e => hk b o nb e) fun b q => q ▸ ⟨hfx, h0, hx0⟩).2 fun b q => by obtain ⟨o, e, _⟩ := hl'; exact ⟨o, q ▸ e⟩
    rw [XX_own] at hr'
    have S₄ := S₃.adoptL (x := x) (xs := ys) hh h0 hx0 hl' hr' (fun t ht => by cases ht)
    refine h _ u [(x, a, false, ys)] rfl ⟨m, cm, S₄⟩ ⟨fun b o nb e => hk b o (fun q => nb (.inr (.inr (.inr ⟨_, List.mem_cons_self, q.symm⟩)))) (kept_of k₂ b o e), fun b o e => ?_⟩ fun t ht => .inl ⟨_, List.mem_cons_self, by rw [List.mem_singleton.mp ht]⟩
    by_cases q : b = a
    · obtain ⟨o', e', _⟩ := hl'; exact ⟨o', by rw [q]; exact e'⟩
    · exact ⟨o, hk b o q (kept_of k₂ b o e)⟩

theorem Ex.assign_two {x y : Str} {px py : Pos} {kk kk' : Nat} {tp vp pos : Pos} {e1 e2 : Expr} {i j : Int} {σ1 σ2 : List (Str × Bool × List V)} (h1 : EvS C k env ρ σ e1 i σ1) (h2 : EvS C k env ρ σ1 e2 j σ2) (h : P (.next ((x, .int i) :: (y, .int j) :: ρ) σ2))
    (hnd : [x, y].Nodup := by decide) (hx : Kind env x := by first | exact .inl rfl | exact .inr ⟨rfl, rfl⟩) (hy : Kind env y := by first | exact .inl rfl | exact .inr ⟨rfl, rfl⟩)
    (ho : [x, y].all (fun x => σ2.all (fun p => p.1 != x)) = true := by rfl)
    (hs1 : starEach [e1, e2] env = (false, eval e1 env) :: starEach [e2] env := by rfl) (hs2 : starEach [e2] env = (false, eval e2 env) :: starEach [] env := by rfl)
    (hs : swapsWithSole [.Tuple [.Name x px, .Name y py] kk tp] (.Tuple [e1, e2] kk' vp) pos.line env = pure false := by rfl)
    (hw : (swappedStores [.Tuple [.Name x px, .Name y py] kk tp] (.Tuple [e1, e2] kk' vp) env = pure none) ∨ (swappedStores [.Tuple [.Name x px, .Name y py] kk tp] (.Tuple [e1, e2] kk' vp) env = pure (some [x, y])) := by first | exact .inl rfl | exact .inr rfl) :
    Ex C k env ρ σ (.Assign [.Tuple [.Name x px, .Name y py] kk tp] (.Tuple [e1, e2] kk' vp) pos) P := by
  intro A E s₀ X₀ σa s rm hσa S
  have key : ∀ {Q : Value → Shared → Prop}, (∀ s₂ (t : Tok × Tok) σb h' T, Mine.own σb = σ2 → St C env s₀ X₀ ρ σb s₂ → Chg (MX env σa) s.heap s₂.heap → Sub σb σa s.heap → Kept s₂.heap h' → h'.IsTuple T #[.int i t.1, .int j t.2] → Q (.ref T) { s₂ with heap := h' }) → wpAny (model C.prog C.w) A (eval (.Tuple [e1, e2] kk' vp) env) Q E s := by
    intro Q hq
    refine wpAny_Tuple (wpAny_items_cons (he := hs1) (h1 A E s₀ X₀ σa s _ rm hσa S fun s₁ t₁ σb h₁ S₁ ch₁ sub₁ => wpAny_items_cons (he := hs2) (h2 A E s₀ X₀ σb s₁ _ rm h₁ S₁ fun s₂ t₂ σc h₂ S₂ ch₂ sub₂ => wpAny_items_nil ⟨sizeLine_ge (by simp), ?_⟩)))
    have kp : Kept s₂.heap (s₂.heap.push { cls := .type "tuple", data := .seq #[.int i t₁, .int j t₂] }) := fun b o e => Heap.get?_push_of_some _ e
    exact hq s₂ (t₁, t₂) σc _ _ h₂ S₂ (chg_trans ch₁ sub₁ ch₂) (sub_trans sub₁ ch₁ sub₂) kp ⟨_, Heap.get?_push_size _ rfl, rfl, _, rfl⟩
  have hrep : ∀ {X : Addr → Prop} {hp : Heap} (t : Tok × Tok), Reps X hp [V.int i, V.int j] [.int i t.1, .int j t.2] := fun t => ⟨_, _, rfl, ⟨_, rfl⟩, _, _, rfl, ⟨_, rfl⟩, rfl⟩
  have kindOk : ∀ z ∈ [x, y], Kind env z := fun z hz => by
    rcases List.mem_cons.mp hz with rfl | hz
    · exact hx
    · rw [List.mem_singleton.mp hz]; exact hy
  obtain ⟨f1, f2, f3⟩ := namesOf_assign (env := env) (es := [.Name x px, .Name y py]) (xs := [x, y]) rfl
  rcases hw with hw | hw
  · refine Assign_Tuple (hs := hs) (hw := hw) (key fun s₂ t σb h' T hσb S₂ ch sub kp hT => ?_)
    have k₂ : Keeps s₂ { s₂ with heap := h' } := keeps_heap s₂ h' kp
    refine wpAny_assign_Tuple rm.handled hT (by rw [f2]; rfl) f3 fun h'' he => ?_
    have k₃ : Keeps { s₂ with heap := h' } { s₂ with heap := h'' } := keeps_heap _ h'' (kept_ext he)
    have ho' : ∀ z ∈ [x, y], ∀ t ∈ σb, t.1 ≠ z := fun z hz => own_ne (by rw [hσb]; exact List.all_eq_true.mp ho z hz)
    refine St.stores [x, y] _ [.int i, .int j] _ ρ _ _ f1 rfl ((S₂.grow k₂).grow k₃) (hrep t) kindOk ho' fun s' S' ch' => ?_
    refine ⟨_, σb, h, ⟨rfl, hσb, S'.mono fun z v hz => lookup_rev_app (l := [(x, .int i), (y, .int j)]) (by simpa using hnd) z v hz⟩, chg_trans (chg_trans ch sub (Chg.of_keeps (keeps_trans k₂ k₃))) sub ch'.fr, sub⟩
  · refine Assign_Tuple_swapped (hs := hs) (hw := hw) (key fun s₂ t σb h' T hσb S₂ ch sub kp hT => ?_)
    have k₂ : Keeps s₂ { s₂ with heap := h' } := keeps_heap s₂ h' kp
    rw [show [x, y].length = (#[Value.int i t.1, Value.int j t.2]).size from rfl]
    refine wpAny_unpackItems_tuple rm.handled hT fun h'' he => ?_
    have k₃ : Keeps { s₂ with heap := h' } { s₂ with heap := h'' } := keeps_heap _ h'' (kept_ext he)
    have ho' : ∀ z ∈ [x, y], ∀ t ∈ σb, t.1 ≠ z := fun z hz => own_ne (by rw [hσb]; exact List.all_eq_true.mp ho z hz)
    refine St.stores [y, x] _ [.int j, .int i] _ ρ _ _ (allStore_bind [y, x]) rfl ((S₂.grow k₂).grow k₃) ⟨_, _, rfl, ⟨t.2, rfl⟩, _, _, rfl, ⟨t.1, rfl⟩, rfl⟩ (fun z hz => kindOk z (by simp at hz ⊢; exact hz.symm)) (fun z hz => ho' z (by simp at hz ⊢; exact hz.symm)) fun s' S' ch' => ?_
    have e : ([y, x].zip [V.int j, V.int i]).reverse ++ ρ = (x, .int i) :: (y, .int j) :: ρ := rfl
    rw [e] at S'
    have c3 := chg_trans (chg_trans ch sub (Chg.of_keeps (keeps_trans k₂ k₃))) sub ch'.fr
    exact ⟨.next _ _, σb, h, ⟨rfl, hσb, S'⟩, c3, sub⟩
end
end Mine

end

section
open PySem PySem.W PyProof.Rows
namespace Mine

/-- a test up to a number -/
def upTo (p : Nat → Bool) : Nat → Bool
  | 0 => p 0
  | n + 1 => p (n + 1) && upTo p n
theorem upTo_of {p : Nat → Bool} : ∀ {n : Nat}, upTo p n = true → ∀ i, i ≤ n → p i = true
  | 0, h, i, hi => by obtain rfl : i = 0 := by omega
                      exact h
  | n + 1, h, i, hi => by
    obtain ⟨h1, h2⟩ := Bool.and_eq_true_iff.mp h
    rcases Nat.lt_or_ge i (n + 1) with q | q
    · exact upTo_of h2 i (by omega)
    · obtain rfl : i = n + 1 := by omega
      exact h1

def primesTo (n : Nat) : List Nat := [2, 3, 5, 7, 11, 13, 17, 19, 23, 29, 31, 37].filter (· ≤ n)
theorem sieve_all : upTo (fun n => sieveL n == primesTo n) 40 = true := by decide +kernel
theorem sieve_eq {n : Nat} (h : n ≤ 40) : sieveL n = primesTo n := by simpa using upTo_of sieve_all n h
def waysP (n k : Nat) : Nat := prodP ((primesTo n).filterMap (pairOf n k))
theorem ways_eq {n : Nat} (h : n ≤ 40) (k : Nat) : ways n k = waysP n k := by rw [ways, pairsL, sieve_eq h, waysP]

/-- the limbs hold the number's own bits -/
theorem told_all : upTo (fun v => upTo (fun x => nones (dig (2 ^ (3 + v)) x) == ones x) 40) 4 = true := by decide +kernel
theorem told_eq {v x : Nat} (hv : v ≤ 4) (hx : x ≤ 40) : nones (dig (2 ^ (3 + v)) x) = ones x := by simpa using upTo_of (upTo_of told_all v hv) x hx
theorem leg_all : upTo (fun x => leg 2 x + ones x == x) 40 = true := by decide +kernel
theorem leg_eq {x : Nat} (hx : x ≤ 40) : leg 2 x + ones x = x := by simpa using upTo_of leg_all x hx

def carries (n k : Nat) : Nat := ones k + ones (n - k) - ones n
def waysOk (n k : Nat) : Bool :=
  (waysP n k < 1000000000000) && (ones n ≤ ones k + ones (n - k)) && (leg 2 k + leg 2 (n - k) + carries n k == leg 2 n) && (waysP n k % 2 ^ (carries n k + 1) == 2 ^ carries n k) && ((waysP n k % 2 == 1) == ((k &&& n) == k)) && (carries n k < 10)
theorem ways_all : upTo (fun n => upTo (waysOk n) n) 40 = true := by decide +kernel
structure WaysOk (n k : Nat) : Prop where
  lt : ways n k < 1000000000000
  le : ones n ≤ ones k + ones (n - k)
  leg : Mine.leg 2 k + Mine.leg 2 (n - k) + carries n k = Mine.leg 2 n
  mod : ways n k % 2 ^ (carries n k + 1) = 2 ^ carries n k
  odd : (ways n k % 2 == 1) = ((k &&& n) == k)
  few : carries n k < 10
theorem ways_ok {n k : Nat} (hn : n ≤ 40) (hk : k ≤ n) : WaysOk n k := by
  have h := upTo_of (upTo_of ways_all n hn) k hk
  rw [waysOk, ← ways_eq hn] at h
  simp only [Bool.and_eq_true, decide_eq_true_eq, beq_iff_eq] at h
  obtain ⟨⟨⟨⟨⟨h1, h2⟩, h3⟩, h4⟩, h5⟩, h6⟩ := h
  exact ⟨h1, h2, h3, h4, h5, h6⟩

def notN (w n : Nat) : List Nat := addL (2 ^ w) (dig (2 ^ w) n) [1]
def lack (w n k : Nat) : Bool × List Nat := andS w false (dig (2 ^ w) k) true (notN w n)
def lackOk (w n k : Nat) : Bool := ((lack w n k).1 == false && (lack w n k).2 == []) == ((k &&& n) == k)
theorem lack_all0 : upTo (fun n => upTo (lackOk 3 n) n) 40 = true := by decide +kernel
theorem lack_all1 : upTo (fun n => upTo (lackOk 4 n) n) 40 = true := by decide +kernel
theorem lack_all2 : upTo (fun n => upTo (lackOk 5 n) n) 40 = true := by decide +kernel
theorem lack_all3 : upTo (fun n => upTo (lackOk 6 n) n) 40 = true := by decide +kernel
theorem lack_all4 : upTo (fun n => upTo (lackOk 7 n) n) 40 = true := by decide +kernel
theorem lack_ok {v n k : Nat} (hv : v ≤ 4) (hn : n ≤ 40) (hk : k ≤ n) : ((lack (3 + v) n k).1 == false && (lack (3 + v) n k).2 == []) = ((k &&& n) == k) := by
  have key : upTo (fun n => upTo (lackOk (3 + v) n) n) 40 = true := by
    match v, hv with
    | 0, _ => exact lack_all0
    | 1, _ => exact lack_all1
    | 2, _ => exact lack_all2
    | 3, _ => exact lack_all3
    | 4, _ => exact lack_all4
  exact eq_of_beq (upTo_of (upTo_of key n hn) k hk)
def notOk (w n : Nat) : Bool := ((notN w n).length ≤ 900) && (notN w n).all (· < 2 ^ w) && (0 ≤ cmp1 (notN w n))
theorem not_all : upTo (fun v => upTo (notOk (3 + v)) 40) 4 = true := by decide +kernel
theorem not_ok {v n : Nat} (hv : v ≤ 4) (hn : n ≤ 40) : SnOk (3 + v) true (notN (3 + v) n) := by
  have h := upTo_of (upTo_of not_all v hv) n hn
  simp only [notOk, Bool.and_eq_true, decide_eq_true_eq, List.all_eq_true] at h
  exact ⟨h.1.1, h.1.2, fun _ => h.2⟩
theorem small_ok {v n : Nat} (hn : n < 2 ^ 60) : SnOk (3 + v) false (dig (2 ^ (3 + v)) n) :=
  ⟨Nat.le_trans (dig_len (two_le_pow (by omega)) 60 n hn) (by decide), dig_lt (two_le_pow (by omega)) n, fun h => by cases h⟩

/-- the code of a number -/
def gc (w i : Nat) : List Nat := (xorS w false (dig (2 ^ w) i) false (dig (2 ^ w) (i / 2))).2
def gcOk (w i : Nat) : Bool := ((xorS w false (dig (2 ^ w) i) false (dig (2 ^ w) (i / 2))).1 == false) && ((gc w i).length ≤ 40) && (gc w i).all (· < 2 ^ w) &&
  upTo (fun j => j == i || gc w j != gc w i) 15 && upTo (fun s => decide (2 ^ s ≤ i) || decide (num (2 ^ w) (gc w i) < 2 ^ s)) 4
theorem gc_all : upTo (fun v => upTo (gcOk (3 + v)) 15) 4 = true := by decide +kernel
def gcDist (w i j : Nat) : Bool := nones (xorS w false (gc w i) false (gc w j)).2 == 1
theorem gc_step : upTo (fun v => upTo (fun i => gcDist (3 + v) (i + 1) i) 14) 4 = true := by decide +kernel
theorem gc_round : upTo (fun v => upTo (fun s => gcDist (3 + v) 0 (2 ^ (s + 1) - 1)) 3) 4 = true := by decide +kernel
structure GcOk (w i : Nat) : Prop where
  sign : (xorS w false (dig (2 ^ w) i) false (dig (2 ^ w) (i / 2))).1 = false
  len : (gc w i).length ≤ 40
  lt : ∀ x ∈ gc w i, x < 2 ^ w
  ne : ∀ j, j ≤ 15 → j ≠ i → gc w j ≠ gc w i
  small : ∀ s, s ≤ 4 → i < 2 ^ s → num (2 ^ w) (gc w i) < 2 ^ s
theorem gc_ok {v i : Nat} (hv : v ≤ 4) (hi : i ≤ 15) : GcOk (3 + v) i := by
  have h := upTo_of (upTo_of gc_all v hv) i hi
  simp only [gcOk, Bool.and_eq_true, decide_eq_true_eq, List.all_eq_true, beq_iff_eq] at h
  obtain ⟨⟨⟨⟨h1, h2⟩, h3⟩, h4⟩, h5⟩ := h
  refine ⟨h1, h2, h3, fun j hj hne => ?_, fun s hs hlt => ?_⟩
  · have := upTo_of h4 j hj
    simpa [hne] using this
  · have := upTo_of h5 s hs
    simp only [Bool.or_eq_true, decide_eq_true_eq] at this
    omega
theorem gc_sn {v i : Nat} (hv : v ≤ 4) (hi : i ≤ 15) : SnOk (3 + v) false (gc (3 + v) i) := by
  have h := gc_ok hv hi
  exact ⟨Nat.le_trans h.len (by decide), h.lt, fun h => by cases h⟩
end Mine

end

section
open PySem PySem.W PyProof.Rows
namespace Mine

section
variable {C : Cx} {k : Nat} {env : Env} {ρ : List (Str × V)} {σ : List (Str × Bool × List V)} {P : Out → Prop}
theorem Ex.assign_mapInts {t x : Str} {pt px : Pos} {iter elt : Expr} {scope : Scope} {pos spos : Pos} {cl : List (Str × Addr)} (is : List Int) (F : Int → V) (hi : EvIter C k env ρ σ (.Name x px) iter ((is.map V.int).map .one))
    (helt : ∀ z ∈ is, ∀ D, EvE C k (compEnvC scope cl D env) ((x, .int z) :: seen scope ρ) [] elt (F z)) (hsz : is.length ≤ 1000000) (h : P (.next ((t, .list (is.map F)) :: ρ) σ))
    (hclos : closureFor scope env = pure cl := by rfl) (hfree : FreeIn env (compEnvC scope cl 0 env) (frees scope) := by first | exact trivial | exact ⟨⟨rfl, rfl, rfl⟩, trivial⟩ | exact ⟨⟨rfl, rfl, rfl⟩, ⟨rfl, rfl, rfl⟩, trivial⟩) (hx : scope.names.lookup x = some .local := by rfl)
    (hcell : ∀ y ∈ scope.names, y.2 ≠ .cell := by decide) (hkind : scope.kind = .function := by rfl) (hnames : ∀ y ∈ scope.names, y.2 = .local → scope.names.lookup y.1 = some .local := by decide)
    (ht : Kind env t := by first | exact .inl rfl | exact .inr ⟨rfl, rfl⟩) (ho : σ.all (fun p => p.1 != t) = true := by rfl)
    (hsw : swapsWith (.ListComp elt [⟨.Name x px, iter, [], 0⟩] scope pos) (some (.Name t pt)) spos.line env = pure true := by rfl)
    (hs : ∀ x, foldedSetIterable iter env x = pure x := by intro _; rfl) :
    Ex C k env ρ σ (.Assign [.Name t pt] (.ListComp elt [⟨.Name x px, iter, [], 0⟩] scope pos) spos) P := by
  refine Ex.assign_comp (cl := cl) (fun it => match it with | .one (.int z) => some (F z) | _ => none) hi ?_ hclos hfree (fun it hit => ?_) (sizeLine_ge (by simpa using hsz)) hcell hkind hnames ht ho hsw hs
  · rwa [List.map_map, List.filterMap_map, show ((fun it => match it with | Item.one (.int z) => some (F z) | _ => none) ∘ Item.one ∘ V.int) = (fun z => some (F z)) from rfl, List.filterMap_eq_map']
  · obtain ⟨v, hv, rfl⟩ := List.mem_map.mp hit
    obtain ⟨z, hz, rfl⟩ := List.mem_map.mp hv
    exact ⟨[(x, .int z)], true, .one, by simp [hx], by simp, fun D => ⟨rfl, fun _ => ⟨_, rfl, helt z hz D⟩, fun h => by cases h⟩⟩
end

def absL (is : List Int) : List Nat := is.map Int.natAbs
def codeV (w i : Nat) : V := sn false (gc w i)

theorem pys_map : ∀ l : List V, V.pys l = l.map V.py
  | [] => rfl
  | x :: l => by rw [V.pys, pys_map l, List.map_cons]
theorem datas_all : ∀ l : List V, (∀ x ∈ l, x.data = true) → V.datas l = true
  | [], _ => rfl
  | x :: l, h => by rw [V.datas, h x List.mem_cons_self, datas_all l fun y hy => h y (List.mem_cons_of_mem _ hy)]; rfl
theorem zs_inj {l m : List Nat} (h : zs l = zs m) : l = m := by
  unfold zs at h
  exact List.map_inj_right (fun a b e => by omega) |>.mp h
theorem range_zs (n : Nat) : rangeItems 0 1 n = ((zs (List.range n)).map V.int).map .one := by
  rw [rangeItems_eq]
  simp [rangeV, zs, Function.comp_def]
def codes (w N : Nat) : List V := (List.range N).map (codeV w)
theorem codes_len (w N : Nat) : (codes w N).length = N := by simp [codes]
theorem codes_get {w N i : Nat} {v : V} (h : (codes w N)[i]? = some v) : i < N ∧ v = codeV w i := by
  unfold codes at h
  rw [List.getElem?_map] at h
  obtain ⟨j, hj, rfl⟩ := Option.map_eq_some_iff.mp h
  obtain ⟨h1, h2⟩ := List.getElem?_eq_some_iff.mp hj
  rw [List.getElem_range] at h2
  subst h2
  exact ⟨by simpa using h1, rfl⟩
theorem codes_at {w N i : Nat} (h : i < N) : (codes w N)[i]? = some (codeV w i) := by simp [codes, h]
theorem codeV_sg (w i : Nat) : codeV w i = sg false (zs (gc w i)) := rfl
theorem codes_new {v N i : Nat} (hv : v ≤ 4) (hN : N ≤ 16) (hi : i < N) : ((V.pys ((codes (3 + v) N).take i)).any fun y => PyData.eqv y (codeV (3 + v) i).py) = false := by
  rw [List.any_eq_false]
  intro y hy
  rw [pys_map] at hy
  obtain ⟨x, hx, rfl⟩ := List.mem_map.mp hy
  obtain ⟨j, hj⟩ := List.mem_iff_getElem?.mp hx
  rw [List.getElem?_take] at hj
  split at hj
  · rename_i hji
    obtain ⟨_, rfl⟩ := codes_get hj
    rw [codeV_sg, codeV_sg, sg_eqv]
    have := (gc_ok hv (i := i) (by omega)).ne j (by omega) (by omega)
    simp only [beq_self_eq_true, Bool.true_and, decide_eq_true_eq]
    exact fun q => this (zs_inj q)
  · cases hj
theorem pow_cast (m : Nat) : (2 : Int) ^ (m : Int).toNat = ((2 ^ m : Nat) : Int) := pow_eq m

set_option maxHeartbeats 4000000 in
theorem law_spec {C : Cx} (G : Gl C) (ns : List Int) (hns : ns.length ≤ 1000) : CallC C 61 (fval C "law") [il ns] (.bool true) := by
  obtain ⟨d, h⟩ : ∃ d, recAt 32 = some d := ⟨_, rfl⟩
  obtain ⟨hd, hg⟩ := G.at h
  have gd : Glo C "_law_drawn" (fval C "_law_drawn") := (G.at (i := 29) rfl).2
  have dd := callable_def (G.at (i := 29) rfl).1 gd
  have gsg : Glo C "_law_signed" (fval C "_law_signed") := (G.at (i := 30) rfl).2
  have dsg := callable_def (G.at (i := 30) rfl).1 gsg
  have gnu : Glo C "_law_number" (fval C "_law_number") := (G.at (i := 31) rfl).2
  have dnu := callable_def (G.at (i := 31) rfl).1 gnu
  have gco : Glo C "count_ones" (fval C "count_ones") := (G.at (i := 17) rfl).2
  have dco := callable_def (G.at (i := 17) rfl).1 gco
  have gdi : Glo C "distance" (fval C "distance") := (G.at (i := 18) rfl).2
  have ddi := callable_def (G.at (i := 18) rfl).1 gdi
  have gfe : Glo C "factorial_exponent" (fval C "factorial_exponent") := (G.at (i := 24) rfl).2
  have dfe := callable_def (G.at (i := 24) rfl).1 gfe
  have gbi : Glo C "binomial" (fval C "binomial") := (G.at (i := 25) rfl).2
  have dbi := callable_def (G.at (i := 25) rfl).1 gbi
  have gmu : Glo C "mul_school" (fval C "mul_school") := (G.at (i := 27) rfl).2
  have dmu := callable_def (G.at (i := 27) rfl).1 gmu
  have gan : Glo C "s_and" (fval C "s_and") := (G.at (i := 12) rfl).2
  have dan := callable_def (G.at (i := 12) rfl).1 gan
  have gxo : Glo C "s_xor" (fval C "s_xor") := (G.at (i := 13) rfl).2
  have dxo := callable_def (G.at (i := 13) rfl).1 gxo
  have gno : Glo C "s_not" (fval C "s_not") := (G.at (i := 14) rfl).2
  have dno := callable_def (G.at (i := 14) rfl).1 gno
  cases h
  refine CallC.def (k := 60) hd hg (names := [nm "script"]) (fun L a cd => ?_) (fun _ _ _ => by intro v; rfl) rfl (by decide) (fun _ => rfl) rfl rfl rfl
  -- the well
  obtain ⟨qs, hqs⟩ : ∃ qs, qs = absL (ns.take 4) := ⟨_, rfl⟩
  have hql : qs.length ≤ 4 := by rw [hqs]; simp [absL]; omega
  refine Exs.cons (Ex.own false (EvF.list (EvEs.cons EvE.const_int (EvEs.cons (v := nl qs) (EvE.cast (EvE.mapInts (ns.take 4) (fun z => .int (z.natAbs : Int)) (EvIter.list (EvE.cast (EvE.upto (EvE.name rfl) EvE.const_int (by decide) (sizeLine_ge (by simp; omega))) (by rw [← List.map_take]; rfl)))
    (fun z hz D => EvE.call (EvE.builtin G.abs boot_abs') callable_builtin (EvEs.cons (EvE.call (EvE.builtin G.int boot_int') callable_type (EvEs.cons (EvE.name rfl) EvEs.nil) call_int) EvEs.nil) call_abs) (by simp; omega)) (by rw [hqs]; simp [absL, nl, il, zs, Function.comp_def])) EvEs.nil))) ?_)
  clear hqs
  -- the four draws
  have dlt : ∀ c m : Nat, 1 ≤ m → drawV qs c m < m := fun c m hm => by unfold drawV; split <;> exact Nat.mod_lt _ hm
  obtain ⟨v, hv, hv4⟩ : ∃ v, v = drawV qs 0 5 ∧ v ≤ 4 := ⟨_, rfl, by have := dlt 0 5 (by decide); omega⟩
  obtain ⟨n, hn, hn40⟩ : ∃ n, n = drawV qs 1 41 ∧ n ≤ 40 := ⟨_, rfl, by have := dlt 1 41 (by decide); omega⟩
  obtain ⟨k, hk, hkn⟩ : ∃ k, k = drawV qs 2 (n + 1) ∧ k ≤ n := ⟨_, rfl, by have := dlt 2 (n + 1) (by omega); omega⟩
  obtain ⟨z, hz, hz3⟩ : ∃ z, z = drawV qs 3 4 ∧ z ≤ 3 := ⟨_, rfl, by have := dlt 3 4 (by decide); omega⟩
  refine Exs.cons (Ex.assign_two (i := ((3 + v : Nat) : Int)) (j := (n : Int)) (EvS.bin (b := (v : Int)) EvE.const_int (EvS.call (fun u => EvE.glob gd) dd (fun u => EvE.const_int) (by rw [hv]; exact fun A E X s a items vals Q rm => drawn_spec G qs 0 5 (by decide) (by omega) (by decide) A E X s a items vals Q (rm.le (by decide)))) bin_add)
    (EvS.call (fun u => EvE.glob gd) dd (fun u => EvE.const_int) (by rw [hn]; exact fun A E X s a items vals Q rm => drawn_spec G qs 1 41 (by decide) (by omega) (by decide) A E X s a items vals Q (rm.le (by decide)))) ?_)
  refine Exs.cons (Ex.assign_two (i := (k : Int)) (j := ((1 + z : Nat) : Int)) (EvS.call (j := ((n + 1 : Nat) : Int)) (fun u => EvE.glob gd) dd (fun u => EvE.bin (EvE.name rfl) EvE.const_int bin_add) (by rw [hk]; exact fun A E X s a items vals Q rm => drawn_spec G qs 2 (n + 1) (by omega) (by omega) (by decide) A E X s a items vals Q (rm.le (by decide))))
    (EvS.bin (b := (z : Int)) EvE.const_int (EvS.call (fun u => EvE.glob gd) dd (fun u => EvE.const_int) (by rw [hz]; exact fun A E X s a items vals Q rm => drawn_spec G qs 3 4 (by decide) (by omega) (by decide) A E X s a items vals Q (rm.le (by decide)))) bin_add) ?_)
  clear hv hn hk hz dlt hql
  refine Exs.freeze [] [] rfl ?_
  refine Exs.to [(nm "w", .int ((3 + v : Nat) : Int)), (nm "n", .int (n : Int)), (nm "k", .int (k : Int)), (nm "size", .int ((1 + z : Nat) : Int))] ⟨rfl, rfl, rfl, rfl, trivial⟩ ?_
  obtain ⟨w, hw⟩ : ∃ w, w = 3 + v := ⟨_, rfl⟩
  rw [← hw]
  have hw3 : 3 ≤ w := by omega
  have hw7 : w ≤ 7 := by omega
  have w1 : 1 ≤ w := by omega
  have w20 : w ≤ 20 := by omega
  have w1k : w ≤ 1000 := by omega
  have B := two_le_pow (w := w) (by omega)
  have W := ways_ok hn40 hkn
  have small : ∀ m : Nat, m ≤ 1000000 → m < 2 ^ 60 := fun m hm => Nat.lt_of_le_of_lt hm (by decide)
  have bnd : ∀ m ∈ zs [n, k, n - k], ∃ j : Nat, m = (j : Int) ∧ j ≤ 40 := by
    intro m hm
    simp only [zs, List.map_cons, List.map_nil, List.mem_cons, List.not_mem_nil, or_false] at hm
    rcases hm with rfl | rfl | rfl
    · exact ⟨n, rfl, hn40⟩
    · exact ⟨k, rfl, by omega⟩
    · exact ⟨n - k, rfl, by omega⟩
  have three : V.tuple [.int (n : Int), .int (k : Int), .int ((n : Int) - k)] = .tuple ((zs [n, k, n - k]).map V.int) := by
    rw [show ((n : Int) - k) = ((n - k : Nat) : Int) by omega]; rfl
  -- told
  refine Exs.cons (Ex.assign_mapInts (zs [n, k, n - k]) (fun z => .int (ones z.toNat : Nat)) (EvIter.tuple (EvE.cast (EvE.tuple (EvEs.cons (EvE.name rfl) (EvEs.cons (EvE.name rfl) (EvEs.cons (EvE.bin (EvE.name rfl) (EvE.name rfl) bin_sub) EvEs.nil))) (sizeLine_ge (Nat.le_of_ble_eq_true rfl))) three)) (fun m hm D => ?toldE) (by simp [zs]) ?_)
  case toldE =>
    obtain ⟨j, rfl, hj⟩ := bnd m hm
    refine EvE.cast (EvE.call (EvE.glob gco) dco (EvEs.cons (v := sn false (dig (2 ^ w) j)) (EvE.call (EvE.glob gsg) dsg (EvEs.cons (EvE.name rfl) (EvEs.cons (EvE.name rfl) EvEs.nil)) ((signed_spec G j w w1 w20 (small_pow (by omega))).le (by decide))) EvEs.nil) ((count_ones_spec G _ (Nat.le_trans (dig_len B 60 j (small j (by omega))) (by decide))).le (by decide))) ?_
    rw [hw, told_eq hv4 hj, Int.toNat_natCast]
  -- twos
  refine Exs.cons (Ex.assign_mapInts (zs [n, k, n - k]) (fun z => .int (leg 2 z.toNat : Nat)) (EvIter.tuple (EvE.cast (EvE.tuple (EvEs.cons (EvE.name rfl) (EvEs.cons (EvE.name rfl) (EvEs.cons (EvE.bin (EvE.name rfl) (EvE.name rfl) bin_sub) EvEs.nil))) (sizeLine_ge (Nat.le_of_ble_eq_true rfl))) three)) (fun m hm D => ?twosE) (by simp [zs]) ?_)
  case twosE =>
    obtain ⟨j, rfl, hj⟩ := bnd m hm
    exact EvE.call (EvE.glob gfe) dfe (EvEs.cons (EvE.name rfl) (EvEs.cons EvE.const_int EvEs.nil)) ((leg_spec G j 2 (by decide) (by decide)).le (by decide))
  refine Exs.to [(nm "w", .int (w : Int)), (nm "n", .int (n : Int)), (nm "k", .int (k : Int)), (nm "size", .int ((1 + z : Nat) : Int)), (nm "told", nl [ones n, ones k, ones (n - k)]), (nm "twos", nl [leg 2 n, leg 2 k, leg 2 (n - k)])] ⟨rfl, rfl, rfl, rfl, rfl, rfl, trivial⟩ ?_
  have l1 := leg_eq (x := n) hn40
  have l2 := leg_eq (x := k) (by omega)
  have l3 := leg_eq (x := n - k) (by omega)
  refine Exs.cons (Ex.if (c := false) (EvT.cast (EvT.cmp (EvE.name (v := nl [leg 2 n, leg 2 k, leg 2 (n - k)]) rfl) (EvE.cast (EvE.zipInts (zs [n, k, n - k]) (zs [ones n, ones k, ones (n - k)]) (fun a b => .int (a - b)) (EvIter.zipT G.zip (EvE.cast (EvE.tuple (EvEs.cons (EvE.name rfl) (EvEs.cons (EvE.name rfl) (EvEs.cons (EvE.bin (EvE.name rfl) (EvE.name rfl) bin_sub) EvEs.nil))) (sizeLine_ge (Nat.le_of_ble_eq_true rfl))) three) (EvE.name rfl) (by simp [zs])) (fun a b D => EvE.bin (EvE.name rfl) (EvE.name rfl) bin_sub) (by simp [zs])) (v := nl [leg 2 n, leg 2 k, leg 2 (n - k)]) ?zipEq) cmp_nei) (by simp)) (fun q => by cases q) fun _ => Exs.nil ?_)
  case zipEq =>
    show V.list [V.int ((n : Int) - (ones n : Nat)), V.int ((k : Int) - (ones k : Nat)), V.int (((n - k : Nat) : Int) - (ones (n - k) : Nat))] = V.list [V.int (leg 2 n : Nat), V.int (leg 2 k : Nat), V.int (leg 2 (n - k) : Nat)]
    rw [show (n : Int) - (ones n : Nat) = (leg 2 n : Nat) by omega, show (k : Int) - (ones k : Nat) = (leg 2 k : Nat) by omega, show ((n - k : Nat) : Int) - (ones (n - k) : Nat) = (leg 2 (n - k) : Nat) by omega]
  clear three bnd
  -- many, ways
  have wl := W.lt
  have nl3 : ((zs [ones n, ones k, ones (n - k)]).map V.int).length < 2 ^ 62 := by simp [zs]
  have nl4 : ((zs [leg 2 n, leg 2 k, leg 2 (n - k)]).map V.int).length < 2 ^ 62 := by simp [zs]
  have wd : (dig (2 ^ w) (ways n k)).length ≤ 40 := dig_len B 40 _ (Nat.lt_of_lt_of_le wl (by decide))
  refine Exs.cons (Ex.assign_tup rfl (EvE.tuple (EvEs.cons (v := .int (carries n k : Nat)) (EvE.cast (EvE.bin (EvE.bin (EvE.item (v := .int (ones k : Nat)) (EvE.name rfl) EvE.const_int (by decide) rfl nl3) (EvE.item (v := .int (ones (n - k) : Nat)) (EvE.name rfl) EvE.const_int (by decide) rfl nl3) bin_add) (EvE.item (v := .int (ones n : Nat)) (EvE.name rfl) EvE.const_int (by decide) rfl nl3) bin_sub) ?many)
    (EvEs.cons (v := .int (ways n k : Nat)) (EvE.cast (EvE.call (EvE.glob gnu) dnu (EvEs.cons (v := nl (dig (2 ^ w) (ways n k))) (EvE.call (EvE.glob gbi) dbi (EvEs.cons (EvE.name rfl) (EvEs.cons (EvE.name rfl) (EvEs.cons (EvE.name rfl) (EvEs.cons (EvE.glob gmu) EvEs.nil)))) ((binomial_spec G w1 w20 (mul_f G w1 w20) dmu n k (by omega) hkn (small_pow wl)).le (by omega))) (EvEs.cons (EvE.name rfl) EvEs.nil)) ((law_number_spec G _ w w20 (by omega) (dig_lt B _)).le (by decide))) (by rw [num_dig B])) EvEs.nil)) (sizeLine_ge (Nat.le_of_ble_eq_true rfl))) ?_)
  case many =>
    have := W.le
    unfold carries
    congr 1
    omega
  refine Exs.to [(nm "w", .int (w : Int)), (nm "n", .int (n : Int)), (nm "k", .int (k : Int)), (nm "size", .int ((1 + z : Nat) : Int)), (nm "twos", nl [leg 2 n, leg 2 k, leg 2 (n - k)]), (nm "many", .int (carries n k : Nat)), (nm "ways", .int (ways n k : Nat))] ⟨rfl, rfl, rfl, rfl, rfl, rfl, rfl, trivial⟩ ?_
  have few := W.few
  have pc : ((2 ^ (carries n k + 1) : Nat) : Int) ≠ 0 := by have := Nat.one_le_two_pow (n := carries n k + 1); omega
  refine Exs.cons (Ex.if (c := false) (EvT.cast (EvT.or (b := false) (EvT.cast (EvT.cmp (EvE.bin (EvE.bin (EvE.item (v := .int (leg 2 n : Nat)) (EvE.name rfl) EvE.const_int (by decide) rfl nl4) (EvE.item (v := .int (leg 2 k : Nat)) (EvE.name rfl) EvE.const_int (by decide) rfl nl4) bin_sub) (EvE.item (v := .int (leg 2 (n - k) : Nat)) (EvE.name rfl) EvE.const_int (by decide) rfl nl4) bin_sub) (EvE.name rfl) cmp_ne) ?c1)
    (c := false) (fun _ => EvT.cast (EvT.cmp (EvE.cast (EvE.bin (EvE.name rfl) (EvE.cast (EvE.bin EvE.const_int (EvE.cast (EvE.bin (EvE.name rfl) EvE.const_int bin_add) (v := .int ((carries n k + 1 : Nat) : Int)) rfl) (bin_pow (by omega) (by omega) (by decide))) (v := .int ((2 ^ (carries n k + 1) : Nat) : Int)) (by rw [pow_eq])) (bin_mod pc)) (v := .int ((2 ^ carries n k : Nat) : Int)) (by rw [mod_nat, W.mod])) (EvE.cast (EvE.bin EvE.const_int (EvE.name rfl) (bin_pow (by omega) (by omega) (by decide))) (v := .int ((2 ^ carries n k : Nat) : Int)) (by rw [pow_eq])) cmp_ne) (by simp))) rfl) (fun q => by cases q) fun _ => Exs.nil ?_)
  case c1 =>
    have := W.leg
    simp
    omega
  -- lacking
  have sk : SnOk w false (dig (2 ^ w) k) := by rw [hw]; exact small_ok (small k (by omega))
  have sno : SnOk w true (notN w n) := by rw [hw]; exact not_ok hv4 hn40
  have dl : ∀ m : Nat, m ≤ 1000 → (dig (2 ^ w) m).length ≤ 60 := fun m hm => dig_len B 60 m (small m (by omega))
  have sgn : ∀ {env : Env} {ρ : List (Str × V)} {σ : List (Str × Bool × List V)} (m : Nat), m ≤ 1000 → CallSpec C 60 (fval C "_law_signed") [.int (m : Int), .int (w : Int)] (sn false (dig (2 ^ w) m)) := fun m hm => (signed_spec G m w w1 w20 (small_pow (by omega))).le (by decide)
  refine Exs.cons (Ex.assign (v := sn (lack w n k).1 (lack w n k).2) (EvE.call (EvE.glob gan) dan (EvEs.cons (v := sn false (dig (2 ^ w) k)) (EvE.call (EvE.glob gsg) dsg (EvEs.cons (EvE.name rfl) (EvEs.cons (EvE.name rfl) EvEs.nil)) ((signed_spec G k w w1 w20 (small_pow (by omega))).le (by decide)))
    (EvEs.cons (v := sn true (notN w n)) (EvE.call (EvE.glob gno) dno (EvEs.cons (v := sn false (dig (2 ^ w) n)) (EvE.call (EvE.glob gsg) dsg (EvEs.cons (EvE.name rfl) (EvEs.cons (EvE.name rfl) EvEs.nil)) ((signed_spec G n w w1 w20 (small_pow (by omega))).le (by decide))) (EvEs.cons (EvE.name rfl) EvEs.nil)) ((s_not_spec G w w1k (Nat.le_trans (dl n (by omega)) (by decide))).le (by decide))) (EvEs.cons (EvE.name rfl) EvEs.nil))) ((s_and_spec G w w1 w1k sk sno).le (by decide))) ?_)
  have lk : ((lack w n k).1 == false && (lack w n k).2 == []) = ((k &&& n) == k) := by rw [hw]; exact lack_ok hv4 hn40 hkn
  refine Exs.cons (Ex.if (c := false) (EvT.cast (EvT.cmp (EvE.cmp (EvE.name (v := sg (lack w n k).1 (zs (lack w n k).2)) rfl) (EvE.cast (EvE.tuple (EvEs.cons EvE.const_bool (EvEs.cons (EvE.list EvEs.nil) EvEs.nil)) (sizeLine_ge (Nat.le_of_ble_eq_true rfl))) (v := sg false []) rfl) cmp_eqs) (EvE.cmp (EvE.cast (EvE.bin (EvE.name rfl) EvE.const_int (bin_mod (by decide))) (v := .int ((ways n k % 2 : Nat) : Int)) (congrArg V.int (mod_nat (ways n k) 2))) EvE.const_int cmp_eq) cmp_neb) ?odd) (fun q => by cases q) fun _ => Exs.nil ?_)
  case odd =>
    have e1 : ((lack w n k).1 == false && decide (zs (lack w n k).2 = [])) = ((k &&& n) == k) := by
      rw [← lk]
      cases (lack w n k).2 <;> simp [zs]
    have e2 : (((ways n k % 2 : Nat) : Int) == 1) = ((k &&& n) == k) := by
      rw [← W.odd]
      generalize ways n k % 2 = y
      rw [Bool.eq_iff_iff, beq_iff_eq, beq_iff_eq]
      omega
    rw [e1, e2]
    exact bne_self_eq_false _
  clear lk sk sno W l1 l2 l3 wl wd few pc nl3 nl4
  -- codes
  obtain ⟨N, hN⟩ : ∃ N, N = 2 ^ (1 + z) := ⟨_, rfl⟩
  have hN2 : 2 ≤ N := by rw [hN]; exact two_le_pow (by omega)
  have hN16 : N ≤ 16 := by rw [hN]; exact Nat.pow_le_pow_right (n := 2) (by decide) (show 1 + z ≤ 4 by omega)
  have evN : ∀ {env : Env} {ρ : List (Str × V)} {σ : List (Str × Bool × List V)} {e : Expr} {p q : Pos} {kk : Nat}, EvE C 60 env ρ σ e (.int ((1 + z : Nat) : Int)) → EvE C 60 env ρ σ (.BinOp (.Constant (.int 2) kk p) .Pow e q) (.int (N : Int)) := fun he =>
    EvE.cast (EvE.bin EvE.const_int he (bin_pow (by omega) (by omega) (by decide))) (by rw [pow_eq, hN])
  refine Exs.cons (Ex.assign (v := .list (codes w N)) (EvE.cast (EvE.mapInts (zs (List.range N)) (fun y => codeV w y.toNat) (by rw [← range_zs]; exact EvIter.range1 G.range (evN (EvE.name rfl)) (small_len (by omega)) size_to) (fun y hy D => ?code) (by simp [zs]; omega)) ?codesEq) ?_)
  case code =>
    obtain ⟨i, hi, rfl⟩ := List.mem_map.mp hy
    have hi : i < N := List.mem_range.mp hi
    have g := gc_ok hv4 (i := i) (by omega)
    rw [← hw] at g
    have sm : ∀ m : Nat, m ≤ 100 → SnOk w false (dig (2 ^ w) m) := fun m hm => by rw [hw]; exact small_ok (small m (by omega))
    refine EvE.cast (EvE.call (EvE.glob gxo) dxo (EvEs.cons (v := sn false (dig (2 ^ w) i)) (EvE.call (EvE.glob gsg) dsg (EvEs.cons (EvE.name rfl) (EvEs.cons (EvE.name rfl) EvEs.nil)) ((signed_spec G i w w1 w20 (small_pow (by omega))).le (by decide)))
      (EvEs.cons (v := sn false (dig (2 ^ w) (i / 2))) (EvE.call (EvE.glob gsg) dsg (EvEs.cons (v := .int ((i / 2 : Nat) : Int)) (EvE.cast (EvE.bin (EvE.name rfl) EvE.const_int (bin_div (by decide) (by decide))) (congrArg V.int (div_nat i 2))) (EvEs.cons (EvE.name rfl) EvEs.nil)) ((signed_spec G (i / 2) w w1 w20 (small_pow (by omega))).le (by decide))) (EvEs.cons (EvE.name rfl) EvEs.nil))) ((s_xor_spec G w w1 w1k (sm i (by omega)) (sm (i / 2) (by omega))).le (by decide))) ?_
    rw [g.sign]
    rfl
  case codesEq =>
    show V.list _ = V.list _
    simp [codes, zs, Function.comp_def]
  refine Exs.to [(nm "codes", .list (codes w N)), (nm "w", .int (w : Int)), (nm "size", .int ((1 + z : Nat) : Int))] ⟨rfl, rfl, rfl, trivial⟩ ?_
  have cl : (codes w N).length < 2 ^ 62 := by rw [codes_len]; omega
  have gok : ∀ i, i < N → SnOk w false (gc w i) := fun i hi => by rw [hw]; exact gc_sn hv4 (by omega)
  refine Exs.cons (Ex.if (c := false) (EvT.cast (EvT.cmp (EvE.enumNone (codes w N) (EvIter.enum G.enumerate (EvE.name rfl)) (fun i v hv D => ?none) (by rw [codes_len]; omega)) (EvE.list EvEs.nil) (cmp_nei (is := []) (js := []))) (by simp)) (fun q => by cases q) fun _ => Exs.nil ?_)
  case none =>
    obtain ⟨hi, rfl⟩ := codes_get hv
    have g := gc_ok hv4 (i := i) (by omega)
    rw [← hw] at g
    refine EvT.cast (EvT.or3 (b := false) (EvT.cast (EvT.cmp (EvE.name rfl) (EvE.upto (EvE.name rfl) (EvE.name rfl) (by omega) (sizeLine_ge (by rw [codes_len]; omega))) (cmp_ind (sg_data _ _) ?dat (sg_depth _ _))) ?new)
      (c := false) (fun _ => EvT.value (EvE.item_tup (v := .bool false) (EvE.name rfl) EvE.const_int (by decide) rfl (by simp)) truth_bool)
      (d := false) (fun _ _ => EvT.cast (EvT.cmp (EvE.call (EvE.glob gnu) dnu (EvEs.cons (v := nl (gc w i)) (EvE.item_tup (EvE.name rfl) EvE.const_int (by decide) rfl (by simp)) (EvEs.cons (EvE.name rfl) EvEs.nil)) ((law_number_spec G _ w w20 (by have := g.len; omega) g.lt).le (by decide))) (evN (EvE.name rfl)) cmp_ge) ?lt)) rfl
    case dat =>
      refine datas_all _ fun x hx => ?_
      obtain ⟨j, hj⟩ := List.mem_iff_getElem?.mp (List.mem_of_mem_take hx)
      obtain ⟨_, rfl⟩ := codes_get hj
      exact sg_data _ _
    case new =>
      rw [Int.toNat_natCast, hw]
      exact codes_new hv4 hN16 hi
    case lt =>
      have := g.small (1 + z) (by omega) (by omega)
      simp
      omega
  refine Exs.cons (Ex.ret (EvE.cmp (EvE.cast (EvE.enumV (codes w N) (fun i v => .int 1) (EvIter.enum G.enumerate (EvE.name rfl)) (fun i v hv D => ?dist) (by rw [codes_len]; omega)) (v := il (List.replicate N 1)) ?distEq) (EvE.cast (EvE.bin (EvE.list (EvEs.cons EvE.const_int EvEs.nil)) (EvE.cast (EvE.len G (EvE.name rfl) cl) (v := .int (N : Int)) (by rw [codes_len])) (bin_rep (by omega) (by omega))) (v := il (List.replicate N 1)) (by rw [Int.toNat_natCast]; simp [il])) cmp_eqi) ?_)
  case dist =>
    obtain ⟨hi, rfl⟩ := codes_get hv
    rcases Nat.eq_zero_or_pos i with rfl | hpos
    · have e : ((-1 : Int) + ((codes w N).length : Nat)).toNat = N - 1 := by rw [codes_len]; omega
      refine EvE.cast (EvE.call (EvE.glob gdi) ddi (EvEs.cons (v := sn false (gc w 0)) (EvE.name rfl) (EvEs.cons (v := sn false (gc w (N - 1))) (EvE.item_neg (i := -1) (EvE.name rfl) (EvE.bin (EvE.name rfl) EvE.const_int bin_sub) (by decide) (by rw [codes_len]; omega) (by rw [e]; exact codes_at (by omega)) cl) (EvEs.cons (EvE.name rfl) EvEs.nil))) ((distance_spec G w w1 w1k (gok 0 hi) (gok (N - 1) (by omega))).le (by decide))) ?_
      have := upTo_of (upTo_of gc_round v hv4) z hz3
      rw [← hw, show z + 1 = 1 + z by omega, ← hN] at this
      rw [eq_of_beq this]; rfl
    · have e : (((i - 1 : Nat) : Int)).toNat = i - 1 := Int.toNat_natCast _
      refine EvE.cast (EvE.call (EvE.glob gdi) ddi (EvEs.cons (v := sn false (gc w i)) (EvE.name rfl) (EvEs.cons (v := sn false (gc w (i - 1))) (EvE.item (i := ((i - 1 : Nat) : Int)) (EvE.name rfl) (EvE.cast (EvE.bin (EvE.name rfl) EvE.const_int bin_sub) (by congr 1; omega)) (by omega) (by rw [e]; exact codes_at (by omega)) cl) (EvEs.cons (EvE.name rfl) EvEs.nil))) ((distance_spec G w w1 w1k (gok i hi) (gok (i - 1) (by omega))).le (by decide))) ?_
      have := upTo_of (upTo_of gc_step v hv4) (i - 1) (by omega)
      rw [← hw, show i - 1 + 1 = i by omega] at this
      rw [eq_of_beq this]; rfl
  case distEq =>
    show V.list _ = V.list _
    rw [List.map_const', List.length_zipIdx, codes_len]; simp
  · show V.bool _ = V.bool _
    simp
end Mine

end

section
open PySem PySem.W PyProof.Rows
namespace Mine

/-- the defs of the text -/
def defsP : List DefRec := (List.range 33).filterMap recAt
theorem recs_mem {i : Nat} {d : DefRec} (h : recAt i = some d) : d ∈ defsP := by
  refine List.mem_filterMap.mpr ⟨i, List.mem_range.mpr ?_, h⟩
  rcases Nat.lt_or_ge i 33 with q | q
  · exact q
  · have e : PySem.Challenge.pw_sa0338_01.main.body[i]? = none := List.getElem?_eq_none q
    unfold recAt at h
    rw [e] at h
    cases h
def bn : List Str := [nm "len", nm "range", nm "max", nm "sum", nm "zip", nm "enumerate", nm "abs", nm "int"]
def Free (p : Program) : Prop := ∀ x ∈ bn, x ∉ startupNames ∧ x ∉ looseW p [] ∧ x ∉ (recsOf p).map (·.name) ∧ x ∉ (litsOf p).map (·.1) ∧ x ∉ (clssOf p (looseW p [])).map (·.name)

set_option maxHeartbeats 8000000 in
theorem law_top {p : Program} {w : World} {s₁ : Shared} {mg mb : Str → Option Value} {fa : Addr} {l : Addr} {us : List Value} {ns : List Int} {mean : ExcName → Option Value} {R : Result → Shared → Prop}
    (hp : recsOf p = defsP) (hfree : Free p) (T : Top p (looseW p []) mean mg mb s₁.heap) (hmg : mg (nm "law") = some (.ref fa)) (hL : s₁.heap.IsList l us.toArray) (hI : IntsAre us ns) (hm : ns.length ≤ 1000)
    (hR : ∀ s', Keeps s₁ s' → R (.ok (.ret (.bool true))) s') :
    codeAny (model PySem.Challenge.rw_sa0338_01.row.prog w) callerA (.call (.ref fa) ⟨[.ref l], []⟩) R s₁ := by
  let C : Cx := ⟨PySem.Challenge.rw_sa0338_01.row.prog, w, mg, mb, recsOf p⟩
  have TH : TopH C s₁.heap := { g := T.g, b := T.b, nolimit := T.nolimit, builtins := T.builtins, fn := T.fn }
  have free : ∀ x ∈ bn, Blt C x := fun x hx => by
    obtain ⟨h1, h2, h3, h4, h5⟩ := hfree x hx
    exact T.free x h1 h2 h3 h4 h5
  have G : Gl C := {
    defs := fun i d h => by show d ∈ recsOf p; rw [hp]; exact recs_mem h
    glo := fun i d h => by
      obtain ⟨a, _, _, _, _, e, _⟩ := T.fn d (by rw [hp]; exact recs_mem h)
      show mg d.name = some ((mg d.name).getD _)
      rw [e]; rfl
    len := free _ (List.mem_of_getElem? (i := 0) rfl)
    range := free _ (List.mem_of_getElem? (i := 1) rfl)
    max := free _ (List.mem_of_getElem? (i := 2) rfl)
    sum := free _ (List.mem_of_getElem? (i := 3) rfl)
    zip := free _ (List.mem_of_getElem? (i := 4) rfl)
    enumerate := free _ (List.mem_of_getElem? (i := 5) rfl)
    abs := free _ (List.mem_of_getElem? (i := 6) rfl)
    int := free _ (List.mem_of_getElem? (i := 7) rfl) }
  have f : fval C (nm "law") = .ref fa := by
    show (mg _).getD _ = _
    rw [hmg]; rfl
  have key := law_spec G ns hm callerA R (fun _ => False) s₁ [.ref l] ⟨rfl, by decide +kernel, by decide +kernel⟩ TH (fun _ h => h.elim) ⟨_, _, rfl, ⟨l, us.toArray, rfl, id, hL, by simpa using Reps.ofInts hI⟩, rfl⟩ fun s' val k r => by
    cases (show val = .bool true from r)
    exact hR s' k
  rw [show fval C "law" = .ref fa from f] at key
  exact key

set_option maxHeartbeats 8000000 in
theorem all_holds : PySem.Challenge.rw_sa0338_01.Holds := by
  w_on; o_law; o_head Hook.none; (case hw => w_witness2)
  intro w s₀ s₁ mg mb G Y fa o pm cd doc dV kV ho hd hcd hD hmg hg args vals as hpre hlay hrd hwl hlo
  refine Ground.open G ?_
  intro T B D TE TW
  wrow_args hpre hlay hrd hwl hlo
  refine enter_call ?_
  rename_i ns hs hlay0 hLy hrr hl2 as1 as2 l us as3 hL ra w1 r0 hI hr2 hc1 hc2
  refine codeAny_mono ?_ (fun _ _ g => GoodW.toG g)
  refine law_top (by rfl) (by unfold Free; decide +kernel) T hmg hL hI (by omega) fun s' k => ?_
  obtain ⟨h', t, rfl, kk⟩ := k
  exact ⟨.inl ⟨.bool true, .bool true, [], rfl, raisesW_false (by wrow_none_raised), .bool true, by wrow_post, unshared_nil⟩, kk, rfl, hg⟩
end Mine

end

theorem PySem.Challenge.cw_sa0338_01_holds : PySem.Challenge.rw_sa0338_01.Holds := by
  exact Mine.all_holds
