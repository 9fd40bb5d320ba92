import PyProof.Rows.All
import Wide.All
import OpenK.AllK
import Wide.FinOn
import PySem.Challenge.RW_pc0187_01
open PySem PySem.W PyProof.Rows
set_option Elab.async false
set_option maxRecDepth 100000
set_option maxHeartbeats 8000000
set_option compiler.extract_closed false
set_option linter.unusedVariables false
set_option linter.unusedSimpArgs false
namespace Mine
open_top hd for PySem.Challenge.rw_pc0187_01
open PySem.Calls
noncomputable abbrev lObj (vs : List Value) (n : Nat) : Obj := { cls := .type "list", data := .seq vs.toArray n }
noncomputable abbrev tObj (vs : List Value) (n : Nat) : Obj := { cls := .type "tuple", data := .seq vs.toArray n }

mutual
inductive Rep (W : List Addr) (h : Heap) : Value → PyData → Prop
  | none : Rep W h .none .none
  | bool (b : Bool) : Rep W h (.bool b) (.bool b)
  | int (i : Int) (t : Tok) : Rep W h (.int i t) (.int i)
  | str (x : Str) (t : Tok) : PyData.strOk x = true → Rep W h (.str x t) (.str x)
  | list {a : Addr} {vs : List Value} {n : Nat} {ds : List PyData} : h.get? a = some (lObj vs n) → a ∉ W → RepAll W h vs ds → Rep W h (.ref a) (.list ds)
  | tuple {a : Addr} {vs : List Value} {n : Nat} {ds : List PyData} : h.get? a = some (tObj vs n) → RepAll W h vs ds → Rep W h (.ref a) (.tuple ds)
inductive RepAll (W : List Addr) (h : Heap) : List Value → List PyData → Prop
  | nil : RepAll W h [] []
  | cons {v : Value} {vs : List Value} {d : PyData} {ds : List PyData} : Rep W h v d → RepAll W h vs ds → RepAll W h (v :: vs) (d :: ds)
end

noncomputable def AllLists (W : List Addr) (h : Heap) : Prop := ∀ b ∈ W, ∃ vs n, h.get? b = some (lObj vs n)

structure Moves (W W' : List Addr) (h h' : Heap) : Prop where
  lists : AllLists W h
  fresh : ∀ b ∈ W', b ∉ W → h.get? b = none
  keep : ∀ b o, b ∉ W → h.get? b = some o → h'.get? b = some o

theorem Moves.of_keeps {W : List Addr} {h h' : Heap} (l : AllLists W h) (k : ∀ b o, h.get? b = some o → h'.get? b = some o) : Moves W W h h' :=
  ⟨l, fun _ h1 h2 => absurd h1 h2, fun b o _ e => k b o e⟩

theorem Moves.tup {W W' : List Addr} {h h' : Heap} (M : Moves W W' h h') {a : Addr} {vs : List Value} {n : Nat} (e : h.get? a = some (tObj vs n)) : h'.get? a = some (tObj vs n) :=
  M.keep a _ (fun hm => by
    obtain ⟨us, k, e'⟩ := M.lists a hm
    rw [e] at e'
    have := congrArg (fun o => o.map Obj.cls) e'
    simp [tObj, lObj] at this) e

mutual
theorem Rep.move {W W' : List Addr} {h h' : Heap} (M : Moves W W' h h') : ∀ {v : Value} {d : PyData}, Rep W h v d → Rep W' h' v d
  | _, _, .none => .none
  | _, _, .bool b => .bool b
  | _, _, .int i t => .int i t
  | _, _, .str x t k => .str x t k
  | _, _, .list e hn r => .list (M.keep _ _ hn e) (fun hm => by rw [M.fresh _ hm hn] at e; cases e) (RepAll.move M r)
  | _, _, .tuple e r => .tuple (M.tup e) (RepAll.move M r)
theorem RepAll.move {W W' : List Addr} {h h' : Heap} (M : Moves W W' h h') : ∀ {vs : List Value} {ds : List PyData}, RepAll W h vs ds → RepAll W' h' vs ds
  | _, _, .nil => .nil
  | _, _, .cons r rs => .cons (Rep.move M r) (RepAll.move M rs)
end

mutual
theorem Rep.reads {W : List Addr} {h : Heap} : ∀ {v : Value} {d : PyData}, Rep W h v d → (∃ as, Reads h v d as) ∧ d.canLay0 = true
  | _, _, .none => ⟨⟨_, .none⟩, by simp [PyData.canLay0]⟩
  | _, _, .bool b => ⟨⟨_, .bool b⟩, by simp [PyData.canLay0]⟩
  | _, _, .int i t => ⟨⟨_, .int i t⟩, by simp [PyData.canLay0]⟩
  | _, _, .str x t k => ⟨⟨_, .str x t⟩, by simp [PyData.canLay0, k]⟩
  | _, _, .list e _ r => by
    obtain ⟨⟨as, q⟩, k⟩ := RepAll.reads r
    exact ⟨⟨_, .list e rfl rfl (by simpa using q)⟩, by simp [PyData.canLay0, k]⟩
  | _, _, .tuple e r => by
    obtain ⟨⟨as, q⟩, k⟩ := RepAll.reads r
    exact ⟨⟨_, .tuple e rfl rfl (by simpa using q)⟩, by simp [PyData.canLay0, k]⟩
theorem RepAll.reads {W : List Addr} {h : Heap} : ∀ {vs : List Value} {ds : List PyData}, RepAll W h vs ds → (∃ as, ReadsAll h vs ds as) ∧ PyData.canLayAll0 ds = true
  | _, _, .nil => ⟨⟨_, .nil⟩, by simp [PyData.canLayAll0]⟩
  | _, _, .cons r rs => by
    obtain ⟨⟨as, q⟩, k⟩ := Rep.reads r
    obtain ⟨⟨bs, q'⟩, k'⟩ := RepAll.reads rs
    exact ⟨⟨_, .cons q q'⟩, by simp [PyData.canLayAll0, k, k']⟩
end

section
variable {W : List Addr} {h : Heap} {vs us : List Value} {ds es : List PyData}
theorem RepAll.length (r : RepAll W h vs ds) : vs.length = ds.length := by
  induction vs generalizing ds with
  | nil => cases r; rfl
  | cons v vs ih => cases r with | cons a b => simp [ih b]
theorem RepAll.append (r : RepAll W h vs ds) (q : RepAll W h us es) : RepAll W h (vs ++ us) (ds ++ es) := by
  induction vs generalizing ds with
  | nil => cases r; exact q
  | cons v vs ih => cases r with | cons a b => exact .cons a (ih b)
theorem RepAll.get (r : RepAll W h vs ds) {i : Nat} {d : PyData} (e : ds[i]? = some d) : ∃ v, vs[i]? = some v ∧ Rep W h v d := by
  induction vs generalizing ds i with
  | nil => cases r; cases e
  | cons v vs ih =>
    cases r with
    | cons a b =>
      cases i with
      | zero => simp only [List.getElem?_cons_zero, Option.some.injEq] at e; subst e; exact ⟨v, rfl, a⟩
      | succ i => simp only [List.getElem?_cons_succ] at e ⊢; exact ih b e
theorem RepAll.take (r : RepAll W h vs ds) (n : Nat) : RepAll W h (vs.take n) (ds.take n) := by
  induction vs generalizing ds n with
  | nil => cases r; simp; exact .nil
  | cons v vs ih =>
    cases r with
    | cons a b => cases n with
      | zero => exact .nil
      | succ n => exact .cons a (ih b n)
theorem RepAll.drop (r : RepAll W h vs ds) (n : Nat) : RepAll W h (vs.drop n) (ds.drop n) := by
  induction vs generalizing ds n with
  | nil => cases r; simp; exact .nil
  | cons v vs ih =>
    cases r with
    | cons a b => cases n with
      | zero => exact .cons a b
      | succ n => exact ih b n
theorem RepAll.reverse (r : RepAll W h vs ds) : RepAll W h vs.reverse ds.reverse := by
  induction vs generalizing ds with
  | nil => cases r; exact .nil
  | cons v vs ih =>
    cases r with
    | cons a b => rw [List.reverse_cons, List.reverse_cons]; exact (ih b).append (.cons a .nil)
theorem RepAll.flat (r : RepAll W h vs ds) (n : Nat) : RepAll W h (List.replicate n vs).flatten (List.replicate n ds).flatten := by
  induction n with
  | zero => exact .nil
  | succ n ih => rw [List.replicate_succ, List.replicate_succ, List.flatten_cons, List.flatten_cons]; exact r.append ih
end

/-- what a name may hold: data, or the i-th of the lists that turn -/
inductive B where
  | val (d : PyData)
  | cell (i : Nat)
  | raw (v : Value)

noncomputable abbrev Gam := List (Str × B)
noncomputable abbrev Sto := List (List PyData)

noncomputable def RepB (W : List Addr) (h : Heap) (v : Value) : B → Prop
  | .val d => Rep W h v d
  | .cell i => ∃ a, W[i]? = some a ∧ v = .ref a
  | .raw u => v = u

structure Cx where
  w : World
  hb : Heap
  mg : Str → Option Value
  mb : Str → Option Value
  g : hb.Ns mainGlobals mg
  b : hb.Ns builtinsNs mb
  bt : ∀ x : Str, x ≠ "__name__" → mb x = bootBuiltins x
  nolimit : hb.NoLimit
  X : (hd.heap_39 w.params).In hb

noncomputable abbrev PG : Program := PySem.Challenge.rw_pc0187_01.row.prog
noncomputable abbrev Cx.K (c : Cx) : Frag := hd.heap_39 c.w.params
noncomputable abbrev Cx.M (c : Cx) : Model := model PG c.w

structure St (c : Cx) (W : List Addr) (σ : Sto) (s : Shared) : Prop where
  base : ∀ b o, c.hb.get? b = some o → s.heap.get? b = some o
  fresh : ∀ b ∈ W, c.hb.get? b = none
  nodup : W.Nodup
  len : W.length = σ.length
  cell : ∀ (i : Nat) (ds : List PyData), σ[i]? = some ds → ∃ (a : Addr) (vs : List Value) (n : Nat), W[i]? = some a ∧ s.heap.get? a = some (lObj vs n) ∧ RepAll W s.heap vs ds

theorem St.lists {c : Cx} {W : List Addr} {σ : Sto} {s : Shared} (x : St c W σ s) : AllLists W s.heap := by
  intro b hb
  obtain ⟨i, hi, rfl⟩ := List.getElem_of_mem hb
  have hs : i < σ.length := by have := x.len; omega
  obtain ⟨a, vs, n, h1, h2, _⟩ := x.cell i σ[i] (by simp [hs])
  rw [List.getElem?_eq_getElem hi] at h1
  cases h1
  exact ⟨vs, n, h2⟩

structure Step (W W' : List Addr) (s s' : Shared) : Prop where
  same : ∃ h' tk, s' = { s with heap := h', toks := tk }
  pre : W <+: W'
  fresh : ∀ b ∈ W', b ∉ W → s.heap.get? b = none
  keep : ∀ b o, b ∉ W → s.heap.get? b = some o → s'.heap.get? b = some o

theorem Step.refl (W : List Addr) (s : Shared) : Step W W s s := ⟨⟨s.heap, s.toks, rfl⟩, List.prefix_rfl, fun _ h1 h2 => absurd h1 h2, fun _ _ _ e => e⟩
theorem Step.trans {W W' W'' : List Addr} {s s' s'' : Shared} (x : Step W W' s s') (y : Step W' W'' s' s'') : Step W W'' s s'' := by
  obtain ⟨h1, t1, rfl⟩ := x.same
  obtain ⟨h2, t2, rfl⟩ := y.same
  have k1 : ∀ b o, b ∉ W → s.heap.get? b = some o → b ∉ W' := fun b o hb e hm => by rw [x.fresh b hm hb] at e; cases e
  refine ⟨⟨h2, t2, rfl⟩, x.pre.trans y.pre, fun b hb hn => ?_, fun b o hb e => y.keep b o (k1 b o hb e) (x.keep b o hb e)⟩
  by_cases hm : b ∈ W'
  · exact x.fresh b hm hn
  · have h := y.fresh b hb hm
    cases q : s.heap.get? b with
    | none => rfl
    | some o => have := x.keep b o hn q; rw [h] at this; cases this
theorem Step.of_keeps {W : List Addr} {s : Shared} {h' : Heap} {tk : Nat} (k : ∀ b o, s.heap.get? b = some o → h'.get? b = some o) : Step W W s { s with heap := h', toks := tk } :=
  ⟨⟨h', tk, rfl⟩, List.prefix_rfl, fun _ h1 h2 => absurd h1 h2, fun b o _ e => k b o e⟩
theorem Step.moves {W W' : List Addr} {s s' : Shared} (x : Step W W' s s') (l : AllLists W s.heap) : Moves W W' s.heap s'.heap := ⟨l, x.fresh, x.keep⟩

theorem RepB.move {W W' : List Addr} {h h' : Heap} (M : Moves W W' h h') (p : W <+: W') {v : Value} {b : B} (r : RepB W h v b) : RepB W' h' v b := by
  cases b with
  | val d => exact Rep.move M r
  | raw u => exact r
  | cell i =>
    obtain ⟨a, e, rfl⟩ := r
    obtain ⟨t, rfl⟩ := p
    exact ⟨a, by rw [List.getElem?_append_left (List.getElem?_eq_some_iff.mp e).1]; exact e, rfl⟩

theorem St.keeps {c : Cx} {W : List Addr} {σ : Sto} {s : Shared} (x : St c W σ s) {h' : Heap} {tk : Nat} (k : ∀ b o, s.heap.get? b = some o → h'.get? b = some o) : St c W σ { s with heap := h', toks := tk } :=
  ⟨fun b o e => k b o (x.base b o e), x.fresh, x.nodup, x.len, fun i ds e => by
    obtain ⟨a, vs, n, h1, h2, h3⟩ := x.cell i ds e
    exact ⟨a, vs, n, h1, k _ _ h2, h3.move (Moves.of_keeps x.lists k)⟩⟩

noncomputable def slotOf (sc : Scope) (m cm : Str → Option Value) (x : Str) : Option Value :=
  match sc.names.lookup x with
  | some .local => m x
  | some .cell => cm x
  | _ => none

structure Vars (W : List Addr) (env : Env) (sc : Scope) (Γ : Gam) (h : Heap) : Prop where
  scope : env.scope = sc
  kind : sc.kind = .function
  glob : env.globals = mainGlobals
  blt : env.builtins = builtinsNs
  apart : env.cells.Pairwise (fun x y => x.2 ≠ y.2)
  has : ∀ x, sc.names.lookup x = some .cell → ∃ a, env.cells.lookup x = some a
  dist : ∀ a ∈ env.cells.map (·.2), ∃ x, env.cells.lookup x = some a
  frame : ∃ m cm, h.Ns env.locals m ∧ (∀ x a, env.cells.lookup x = some a → h.IsCell a (cm x)) ∧ ∀ x b, Γ.lookup x = some b → ∃ v, slotOf sc m cm x = some v ∧ RepB W h v b

theorem AllLists.notDict {W : List Addr} {h : Heap} (l : AllLists W h) {a : Addr} {m : Str → Option Value} (n : h.Ns a m) : a ∉ W := by
  intro hm
  obtain ⟨vs, k, e⟩ := l a hm
  obtain ⟨o, es, ep, e', d, _⟩ := n
  rw [e] at e'; cases e'; cases d
theorem AllLists.notCell {W : List Addr} {h : Heap} (l : AllLists W h) {a : Addr} {v : Option Value} (n : h.IsCell a v) : a ∉ W := by
  intro hm
  obtain ⟨vs, k, e⟩ := l a hm
  obtain ⟨o, e', d⟩ := n
  rw [e] at e'; cases e'; cases d

theorem Vars.move {W W' : List Addr} {env : Env} {sc : Scope} {Γ : Gam} {h h' : Heap} (x : Vars W env sc Γ h) (M : Moves W W' h h') (p : W <+: W') : Vars W' env sc Γ h' := by
  refine ⟨x.scope, x.kind, x.glob, x.blt, x.apart, x.has, x.dist, ?_⟩
  obtain ⟨m, cm, hn, hc, hg⟩ := x.frame
  refine ⟨m, cm, hn.at' fun o e => M.keep _ o (M.lists.notDict hn) e, fun y a e => ?_, fun y b e => ?_⟩
  · obtain ⟨o, e', d⟩ := hc y a e
    exact ⟨o, M.keep _ o (M.lists.notCell (hc y a e)) e', d⟩
  · obtain ⟨v, h1, h2⟩ := hg y b e
    exact ⟨v, h1, h2.move M p⟩

structure Room (n : Nat) (A : Around) : Prop where
  handled : A.handled = none
  depth : A.depth + n < 900
  units : A.units + 8 * n < 9000

theorem Room.mono {n m : Nat} {A : Around} (x : Room n A) (h : m ≤ n) : Room m A := ⟨x.handled, by have := x.depth; omega, by have := x.units; omega⟩

/-- an expression: from the names Γ and the lists σ it yields b and leaves σ' -/
structure Ev (c : Cx) (n : Nat) (sc : Scope) (Γ : Gam) (σ : Sto) (e : Expr) (b : B) (σ' : Sto) : Prop where
  run : ∀ (A : Around) (env : Env) (s : Shared) (W : List Addr) (Q : Value → Shared → Prop) (E : Value → Shared → Prop),
    Room n A → Vars W env sc Γ s.heap → St c W σ s →
    (∀ v s' W', Step W W' s s' → St c W' σ' s' → RepB W' s'.heap v b → Q v s') → wpAny c.M A (eval e env) Q E s

/-- a test -/
structure Tst (c : Cx) (n : Nat) (sc : Scope) (Γ : Gam) (σ : Sto) (e : Expr) (b : Bool) (σ' : Sto) : Prop where
  run : ∀ (A : Around) (env : Env) (s : Shared) (W : List Addr) (Q : Bool → Shared → Prop) (E : Value → Shared → Prop),
    Room n A → Vars W env sc Γ s.heap → St c W σ s →
    (∀ s' W', Step W W' s s' → St c W' σ' s' → Q b s') → wpAny c.M A (isTrue e env (eval e env)) Q E s

inductive RepBs (W : List Addr) (h : Heap) : List Value → List B → Prop
  | nil : RepBs W h [] []
  | cons {v : Value} {vs : List Value} {b : B} {bs : List B} : RepB W h v b → RepBs W h vs bs → RepBs W h (v :: vs) (b :: bs)

theorem RepBs.move {W W' : List Addr} {h h' : Heap} (M : Moves W W' h h') (p : W <+: W') {vs : List Value} {bs : List B} (r : RepBs W h vs bs) : RepBs W' h' vs bs := by
  induction r with
  | nil => exact .nil
  | cons a _ ih => exact .cons (a.move M p) ih

/-- a call of any value -/
noncomputable def Cal (c : Cx) (n : Nat) (f : Value) (args : List B) (σ : Sto) (b : B) (σ' : Sto) : Prop :=
  ∀ (A : Around) (s : Shared) (W : List Addr) (vs : List Value) (Q : Value → Shared → Prop) (E : Value → Shared → Prop),
    Room n A → St c W σ s → RepBs W s.heap vs args →
    (∀ v s' W', Step W W' s s' → St c W' σ' s' → RepB W' s'.heap v b → Q v s') → wpAny c.M A (call f vs) Q E s

inductive Res where
  | next (Γ : Gam) (σ : Sto)
  | ret (b : B) (σ : Sto)

/-- a frame at work: since s₀ (lists W₀) nothing that stood was changed but those lists; what the frame itself stores into stood not yet -/
structure Fx (c : Cx) (env : Env) (sc : Scope) (W₀ : List Addr) (s₀ : Shared) (W : List Addr) (Γ : Gam) (σ : Sto) (s : Shared) : Prop where
  vars : Vars W env sc Γ s.heap
  st : St c W σ s
  step : Step W₀ W s₀ s
  own : s₀.heap.get? env.locals = none
  ownC : ∀ x a, env.cells.lookup x = some a → s₀.heap.get? a = none
  base0 : ∀ b o, c.hb.get? b = some o → s₀.heap.get? b = some o

noncomputable def Ends (c : Cx) (env : Env) (sc : Scope) (W₀ : List Addr) (s₀ : Shared) (Q : Flow → Shared → Prop) : Res → Prop
  | .next Γ' σ' => ∀ s' W', Fx c env sc W₀ s₀ W' Γ' σ' s' → Q .next s'
  | .ret b σ' => ∀ v s' W', Step W₀ W' s₀ s' → St c W' σ' s' → RepB W' s'.heap v b → Q (.ret v) s'

structure Exec (c : Cx) (n : Nat) (sc : Scope) (Γ : Gam) (σ : Sto) (ss : List Stmt) (r : Res) : Prop where
  run : ∀ (A : Around) (env : Env) (s₀ : Shared) (W₀ : List Addr) (s : Shared) (W : List Addr) (Q : Flow → Shared → Prop) (E : Value → Shared → Prop),
    Room n A → Fx c env sc W₀ s₀ W Γ σ s → Ends c env sc W₀ s₀ Q r → wpAny c.M A (execs ss env) Q E s
theorem AllLists.lt {W : List Addr} {h : Heap} (l : AllLists W h) {b : Addr} (hb : b ∈ W) : b < h.objs.size := by
  obtain ⟨vs, n, e⟩ := l b hb
  exact Heap.lt_size e
theorem AllLists.ge {W : List Addr} {h : Heap} (l : AllLists W h) {b : Addr} (hb : h.objs.size ≤ b) : b ∉ W := fun hm => Nat.lt_irrefl _ (Nat.lt_of_lt_of_le (l.lt hm) hb)

theorem Rep.keeps {W : List Addr} {h h' : Heap} (l : AllLists W h) (k : ∀ b o, h.get? b = some o → h'.get? b = some o) {v : Value} {d : PyData} (r : Rep W h v d) : Rep W h' v d := r.move (Moves.of_keeps l k)
theorem RepAll.keeps {W : List Addr} {h h' : Heap} (l : AllLists W h) (k : ∀ b o, h.get? b = some o → h'.get? b = some o) {v : List Value} {d : List PyData} (r : RepAll W h v d) : RepAll W h' v d := r.move (Moves.of_keeps l k)

/-- a new tuple, a new list -/
theorem Rep.newTuple {W : List Addr} {h : Heap} {vs : List Value} {ds : List PyData} (l : AllLists W h) (r : RepAll W h vs ds) : Rep W (h.push (tObj vs 0)) (.ref h.objs.size) (.tuple ds) :=
  .tuple (Heap.get?_push_size _ rfl) (r.keeps l fun _ _ e => Heap.get?_push_of_some _ e)
theorem Rep.newList {W : List Addr} {h : Heap} {vs : List Value} {ds : List PyData} (l : AllLists W h) (r : RepAll W h vs ds) : Rep W (h.push (lObj vs 0)) (.ref h.objs.size) (.list ds) :=
  .list (Heap.get?_push_size _ rfl) (l.ge (Nat.le_refl _)) (r.keeps l fun _ _ e => Heap.get?_push_of_some _ e)

/-- a step on values alone -/
noncomputable def ValR (c : Cx) (t : Value → Value → Sem Value) (a b d : PyData) : Prop :=
  ∀ (A : Around) (s : Shared) (W : List Addr) (v u : Value) (Q : Value → Shared → Prop) (E : Value → Shared → Prop),
    Room 0 A → AllLists W s.heap → Rep W s.heap v a → Rep W s.heap u b →
    (∀ r h' tk, (∀ b o, s.heap.get? b = some o → h'.get? b = some o) → Rep W h' r d → Q r { s with heap := h', toks := tk }) → wpAny c.M A (t v u) Q E s

noncomputable abbrev BinR (c : Cx) (op : Operator) (a b d : PyData) : Prop := ValR c (fun v u => binaryOp op v u) a b d

section
variable {c : Cx} {i j : Int} {xs ys : List PyData}
theorem bin_add : BinR c .Add (.int i) (.int j) (.int (i + j)) := by
  rintro A s W _ _ Q E _ _ (_ | _ | ⟨_, t⟩) (_ | _ | ⟨_, u⟩) hQ
  exact PyProof.Rows.add_int (hQ _ s.heap _ (fun _ _ e => e) (.int _ _))
theorem bin_sub : BinR c .Sub (.int i) (.int j) (.int (i - j)) := by
  rintro A s W _ _ Q E _ _ (_ | _ | ⟨_, t⟩) (_ | _ | ⟨_, u⟩) hQ
  exact P.sub_int (hQ _ s.heap _ (fun _ _ e => e) (.int _ _))
theorem bin_mul (hm : IntMulOk i j) : BinR c .Mult (.int i) (.int j) (.int (i * j)) := by
  rintro A s W _ _ Q E _ _ (_ | _ | ⟨_, t⟩) (_ | _ | ⟨_, u⟩) hQ
  exact P.mul_int (hQ _ s.heap _ (fun _ _ e => e) (.int _ _)) hm
theorem bin_div (h0 : 0 < j) (h1 : j < 1000000000) : BinR c .FloorDiv (.int i) (.int j) (.int (i / j)) := by
  rintro A s W _ _ Q E _ _ (_ | _ | ⟨_, t⟩) (_ | _ | ⟨_, u⟩) hQ
  refine PyProof.Rows.floordiv_int (by omega) ?_ (Or.inl (PyProof.noPylong_small (by omega)))
  rw [Int.fdiv_eq_ediv_of_nonneg _ (Int.le_of_lt h0)]
  exact hQ _ s.heap _ (fun _ _ e => e) (.int _ _)
theorem bin_mod (h0 : 0 < j) : BinR c .Mod (.int i) (.int j) (.int (i % j)) := by
  rintro A s W _ _ Q E _ _ (_ | _ | ⟨_, t⟩) (_ | _ | ⟨_, u⟩) hQ
  refine PyProof.Rows.mod_int' (by omega) ?_
  rw [Int.fmod_eq_emod_of_nonneg _ (Int.le_of_lt h0)]
  exact hQ _ s.heap _ (fun _ _ e => e) (.int _ _)
theorem bin_pow : BinR c .Pow (.int 10) (.int 18) (.int 1000000000000000000) := by
  rintro A s W _ _ Q E _ _ (_ | _ | ⟨_, t⟩) (_ | _ | ⟨_, u⟩) hQ
  exact PyProof.Rows.pow_int (by decide) (by decide +kernel) (hQ _ s.heap _ (fun _ _ e => e) (.int _ _))
theorem bin_cat_list (hs : xs.length + ys.length ≤ sizeLine) : BinR c .Add (.list xs) (.list ys) (.list (xs ++ ys)) := by
  intro A s W v u Q E R l rv ru hQ
  cases rv with
  | list e1 _ r1 =>
    cases ru with
    | list e2 _ r2 =>
      rename_i a vs n b us m
      refine P.add_list e1 e2 ?_ (by simp [r1.length, r2.length]; exact hs)
      refine hQ _ _ s.toks (fun _ _ e => Heap.get?_push_of_some _ e) ?_
      have := Rep.newList l (r1.append r2)
      simpa using this
theorem bin_cat_tuple (hs : xs.length + ys.length ≤ sizeLine) : BinR c .Add (.tuple xs) (.tuple ys) (.tuple (xs ++ ys)) := by
  intro A s W v u Q E R l rv ru hQ
  cases rv with
  | tuple e1 r1 =>
    cases ru with
    | tuple e2 r2 =>
      rename_i a vs n b us m
      by_cases h1 : vs.toArray.isEmpty = true
      · have hv : vs = [] := by simpa using h1
        have hx : xs = [] := by have := r1.length; rw [hv] at this; exact List.length_eq_zero_iff.mp this.symm
        subst hv; subst hx
        refine concat_meets ⟨_, e1, rfl⟩ ⟨_, e2, rfl⟩ noFill_tuple_add seq_tuple_add F.slot_tuple_add F.entry_tuple_add (F.args_tuple_add_2 _ _) (AutoSeq1.tuple___add___tuple_tuple_0 a _ n b _ m rfl) ⟨e1, e2, ?_⟩
        exact hQ _ s.heap s.toks (fun _ _ e => e) (.tuple e2 r2)
      · by_cases h2 : us.toArray.isEmpty = true
        · have hv : us = [] := by simpa using h2
          have hx : ys = [] := by have := r2.length; rw [hv] at this; exact List.length_eq_zero_iff.mp this.symm
          subst hv; subst hx
          refine concat_meets ⟨_, e1, rfl⟩ ⟨_, e2, rfl⟩ noFill_tuple_add seq_tuple_add F.slot_tuple_add F.entry_tuple_add (F.args_tuple_add_2 _ _) (AutoSeq1.tuple___add___tuple_tuple_1 a _ n b _ m h1 rfl) ⟨e1, e2, ?_⟩
          rw [List.append_nil] at hQ
          exact hQ _ s.heap s.toks (fun _ _ e => e) (.tuple e1 r1)
        · refine P.add_tuple e1 e2 h1 h2 ?_ (by simp [r1.length, r2.length]; exact hs)
          refine hQ _ _ s.toks (fun _ _ e => Heap.get?_push_of_some _ e) ?_
          have := Rep.newTuple l (r1.append r2)
          simpa using this
end
theorem bin_times {c : Cx} {xs : List PyData} {k : Nat} (hk : k ≤ 100) (hs : xs.length ≤ 1000) : BinR c .Mult (.list xs) (.int k) (.list (List.replicate k xs).flatten) := by
  intro A s W v u Q E R l rv ru hQ
  cases rv with
  | @list a vs n _ e1 _ r1 =>
    cases ru with
    | int _ t =>
      have hl : vs.length ≤ 1000 := by rw [r1.length]; exact hs
      have hm : vs.length * k ≤ 100000 := Nat.mul_le_mul hl hk
      have hsz : vs.toArray.size * (k : Int).toNat ≤ 2 ^ 24 := by
        rw [Int.toNat_natCast, List.size_toArray]; omega
      have hlo : -(2 ^ 63 : Int) ≤ (k : Int) := by omega
      have hhi : (k : Int) < 2 ^ 63 := by omega
      have hkx : ((k : Int)).toNat = k := Int.toNat_natCast k
      generalize (k : Int) = x at hsz hlo hhi hkx
      refine wpAny_binaryOp_repeat_ref (T := "list") (U := "int") (by decide) ⟨_, e1, rfl⟩ (fun s' => typeIs_int s' x t) noFill_list_mul F.fills_int_mul F.slot_int_rmul repeat_list F.slot_int_index.lookup
        (call_meets F.slot_int_rmul (typeIs_int s x t) F.entry_int_rmul (F.args_int_rmul_2 _ _) (int___rmul___int_list x t a vs.toArray n)
          ⟨e1, rfl, ⟨_, e1, rfl⟩, call_meets F.slot_list_mul ⟨_, e1, rfl⟩ F.entry_list_mul (F.args_list_mul_2 _ _)
            (AutoListH.list___mul___list_int_3 a vs.toArray n x t (by simp [Builtin.List.listFitsIndex]; omega) (by omega) (by simp [Builtin.List.listTooLong, sizeLine]; omega))
            ⟨e1, ?_⟩⟩)
      rw [listMul_foldl_if]
      exact hQ _ _ s.toks (fun _ _ e => Heap.get?_push_of_some _ e) (by rw [hkx]; exact Rep.newList l (r1.flat k))

/-- a call on values alone -/
noncomputable def CalR (c : Cx) (f : Value) (args : List PyData) (d : PyData) : Prop :=
  ∀ (A : Around) (s : Shared) (W : List Addr) (vs : List Value) (Q : Value → Shared → Prop) (E : Value → Shared → Prop),
    Room 0 A → AllLists W s.heap → RepAll W s.heap vs args →
    (∀ r h' tk, (∀ b o, s.heap.get? b = some o → h'.get? b = some o) → Rep W h' r d → Q r { s with heap := h', toks := tk }) → wpAny c.M A (call f vs) Q E s

theorem RepAll.ints {W : List Addr} {h : Heap} : ∀ {vs : List Value} {ns : List Int}, RepAll W h vs (ns.map .int) → IntsAre vs ns
  | _, [], r => by cases r; exact .nil
  | _, n :: ns, r => by
    cases r with
    | cons a b => cases a; exact .cons _ _ b.ints
theorem IntsAre.repAll {W : List Addr} {h : Heap} : ∀ {vs : List Value} {ns : List Int}, IntsAre vs ns → RepAll W h vs (ns.map .int)
  | _, _, .nil => .nil
  | _, _, .cons n t r => .cons (.int n t) (IntsAre.repAll r)

section
variable {c : Cx} {xs : List PyData} {ns : List Int} {i j : Int}
theorem cal_list_list (hs : xs.length ≤ sizeLine) : CalR c (.type "list") [.list xs] (.list xs) := by
  intro A s W vs Q E R l r hQ
  cases r with
  | cons a b =>
    cases b
    cases a with
    | @list a vs n _ e1 _ r1 =>
      refine call_list_seq a (.inl rfl) e1 rfl rfl (fun h' c' k e' => ?_) (by simp [r1.length]; exact hs)
      exact hQ _ h' s.toks k (.list e' (l.ge (Nat.le_refl _)) (r1.keeps l k))
theorem cal_list_tuple (hs : xs.length ≤ sizeLine) : CalR c (.type "list") [.tuple xs] (.list xs) := by
  intro A s W vs Q E R l r hQ
  cases r with
  | cons a b =>
    cases b
    cases a with
    | @tuple a vs n _ e1 r1 =>
      refine call_list_seq a (.inr rfl) e1 rfl rfl (fun h' c' k e' => ?_) (by simp [r1.length]; exact hs)
      exact hQ _ h' s.toks k (.list e' (l.ge (Nat.le_refl _)) (r1.keeps l k))
theorem cal_tuple_list (hs : xs.length ≤ sizeLine) : CalR c (.type "tuple") [.list xs] (.tuple xs) := by
  intro A s W vs Q E R l r hQ
  cases r with
  | cons a b =>
    cases b
    cases a with
    | @list a vs n _ e1 _ r1 =>
      refine call_tuple_list ⟨_, e1, rfl, _, rfl⟩ (fun h' k => ?_) (by simp [r1.length]; exact hs)
      refine hQ _ _ s.toks (fun b o e => Heap.get?_push_of_some _ (k b o e)) ?_
      exact .tuple (Heap.get?_push_size _ rfl) (r1.keeps l fun b o e => Heap.get?_push_of_some _ (k b o e))
theorem cal_tuple_tuple : CalR c (.type "tuple") [.tuple xs] (.tuple xs) := by
  intro A s W vs Q E R l r hQ
  cases r with
  | cons a b =>
    cases b
    cases a with
    | @tuple a vs n _ e1 r1 =>
      refine call_tuple_same ⟨_, e1, rfl, _, rfl⟩ ?_
      exact hQ _ s.heap s.toks (fun _ _ e => e) (.tuple e1 r1)
theorem cal_len_list (hs : xs.length ≤ sizeLine) : CalR c (.builtin "len") [.list xs] (.int xs.length) := by
  intro A s W vs Q E R l r hQ
  cases r with
  | cons a b =>
    cases b
    cases a with
    | @list a vs n _ e1 _ r1 =>
      have e : vs.toArray.size = xs.length := by simp [r1.length]
      refine Calls.call_len_list ⟨_, e1, rfl, _, rfl⟩ (by rw [e]; simp only [sizeLine] at hs; omega) ?_
      rw [e]
      exact hQ _ s.heap _ (fun _ _ e => e) (.int _ _)
theorem cal_int_int : CalR c (.type "int") [.int i] (.int i) := by
  intro A s W vs Q E R l r hQ
  cases r with
  | cons a r' =>
    cases r'
    cases a
    exact call_int_int (hQ _ s.heap s.toks (fun _ _ e => e) (.int _ _))
theorem cal_int_bool {b : Bool} : CalR c (.type "int") [.bool b] (.int (if b then 1 else 0)) := by
  intro A s W vs Q E R l r hQ
  cases r with
  | cons a r' =>
    cases r'
    cases a
    exact call_int_bool (hQ _ s.heap _ (fun _ _ e => e) (.int _ _))
theorem cal_min : CalR c (.builtin "min") [.int i, .int j] (.int (min i j)) := by
  intro A s W vs Q E R l r hQ
  cases r with
  | cons a r' =>
    cases r' with
    | cons b r'' =>
      cases r''
      cases a with
      | int _ t =>
        cases b with
        | int _ u =>
          refine min_two_ints R.handled fun h' tk hk => ?_
          by_cases hc : j < i
          · rw [if_pos hc]
            rw [show min i j = j by omega] at hQ
            exact hQ _ h' tk hk (.int _ _)
          · rw [if_neg hc]
            rw [show min i j = i by omega] at hQ
            exact hQ _ h' tk hk (.int _ _)
theorem cal_sum : CalR c (.builtin "sum") [.list (ns.map .int)] (.int ns.sum) := by
  intro A s W vs Q E R l r hQ
  cases r with
  | cons a r' =>
    cases r'
    cases a with
    | @list a vs n _ e1 _ r1 =>
      have hi := r1.ints
      obtain ⟨xs, e⟩ := hi.allInts.items
      have hns : ns = xs.toList.map (·.1) := by rw [← hi.numsOf, ← nums_intItems, ← e]
      have hl : s.heap.IsList a (intItems xs) := e ▸ ⟨_, e1, rfl, _, rfl⟩
      refine sum_intListG R.handled hl fun h' tk t' hk => ?_
      rw [preSum_eq, List.take_of_length_le (by simp), ← hns]
      exact hQ _ h' tk hk (.int _ _)
theorem cal_max {m : Int} (hm : m ∈ ns) (hle : ∀ a ∈ ns, a ≤ m) : CalR c (.builtin "max") [.list (ns.map .int)] (.int m) := by
  intro A s W vs Q E R l r hQ
  cases r with
  | cons a r' =>
    cases r'
    cases a with
    | @list a vs n _ e1 _ r1 =>
      have hi := r1.ints
      obtain ⟨xs, e⟩ := hi.allInts.items
      have hns : ns = xs.toList.map (·.1) := by rw [← hi.numsOf, ← nums_intItems, ← e]
      have hl : s.heap.IsList a (intItems xs) := e ▸ ⟨_, e1, rfl, _, rfl⟩
      have hsz : 0 < xs.size := by
        have h3 : 0 < ns.length := List.length_pos_of_mem hm
        rw [hns, List.length_map, Array.length_toList] at h3; exact h3
      refine max_intList R.handled hl hsz fun v h' tk hv hk => ?_
      obtain ⟨t, rfl⟩ := intItems_at hv
      obtain ⟨h1, h2⟩ := argBest_gt (numAt xs) (xs.size - 1)
      have g1 : numAt xs (argBest (fun i j => decide (numAt xs i > numAt xs j)) (xs.size - 1)) ∈ ns := by
        rw [hns, numAt_eq]; exact getD_mem (by rw [List.length_map, Array.length_toList]; omega)
      have g2 : m ≤ numAt xs (argBest (fun i j => decide (numAt xs i > numAt xs j)) (xs.size - 1)) := by
        have ha := hm
        rw [hns] at ha
        obtain ⟨j, hj, rfl⟩ := mem_getD ha
        rw [List.length_map, Array.length_toList] at hj
        rw [← numAt_eq]; exact h2 j (by omega)
      have g3 := hle _ g1
      have g : numAt xs (argBest (fun i j => decide (numAt xs i > numAt xs j)) (xs.size - 1)) = m := by omega
      rw [g]
      exact hQ _ h' tk hk (.int _ _)
theorem cal_sorted {ms : List Int} (h64 : ns.length < 64) (hp : ∀ ms' : List Int, ms'.Perm ns → ms'.Pairwise (· ≤ ·) → ms' = ms) : CalR c (.builtin "sorted") [.list (ns.map .int)] (.list (ms.map .int)) := by
  intro A s W vs Q E R l r hQ
  cases r with
  | cons a r' =>
    cases r'
    cases a with
    | @list a vs n _ e1 _ r1 =>
      have hi := r1.ints
      refine sorted_ints ⟨_, e1, rfl, _, rfl⟩ hi (by rw [r1.length, List.length_map]; exact h64) fun out ns' a1 a2 a3 => ?_
      obtain ⟨e, he⟩ := sortedAll_at s.heap vs out
      have := hp ns' a2 a3
      subst this
      refine hQ _ _ s.toks (fun _ _ => sortedAll_old) (.list (n := e) (vs := out.toList) (by simpa using he) (l.ge (Nat.le_succ _)) (IntsAre.repAll a1))
end
section
variable {c : Cx} {n : Nat} {sc : Scope} {Γ : Gam} {σ σ₁ σ₂ : Sto} {e l r : Expr} {pos : Pos} {b b₁ b₂ : B} {k : Nat} {x : Str} {op : CmpOp}

theorem Room.zero {A : Around} (R : Room n A) : Room 0 A := R.mono (Nat.zero_le _)

theorem Cal.mono {m : Nat} {f : Value} {args : List B} (h : Cal c m f args σ b σ₁) (hm : m ≤ n) : Cal c n f args σ b σ₁ :=
  fun A s W vs Q E R S r hQ => h A s W vs Q E (R.mono hm) S r hQ

/-- constants -/
theorem Ev.cint {i : Int} : Ev c n sc Γ σ (.Constant (.int i) k pos) (.val (.int i)) σ :=
  .mk fun A env s W Q E _ _ S hQ => wpAny_Constant_int (hQ _ _ W (Step.of_keeps (h' := s.heap) fun _ _ e => e) (S.keeps (h' := s.heap) fun _ _ e => e) (.int _ _))
theorem Ev.cstr {x : Str} (hx : PyData.strOk x = true) : Ev c n sc Γ σ (.Constant (.str x) k pos) (.val (.str x)) σ :=
  .mk fun A env s W Q E _ _ S hQ => Constant_str (hQ _ _ W (Step.of_keeps (h' := s.heap) fun _ _ e => e) (S.keeps (h' := s.heap) fun _ _ e => e) (.str _ _ hx))
theorem Ev.cbool {v : Bool} : Ev c n sc Γ σ (.Constant (.bool v) k pos) (.val (.bool v)) σ :=
  .mk fun A env s W Q E _ _ S hQ => Constant_bool (hQ _ _ W (Step.refl _ _) S (.bool _))
theorem Ev.cnone : Ev c n sc Γ σ (.Constant .none k pos) (.val .none) σ :=
  .mk fun A env s W Q E _ _ S hQ => Constant_none (hQ _ _ W (Step.refl _ _) S .none)

theorem Vars.kindOf {W : List Addr} {env : Env} {h : Heap} (V : Vars W env sc Γ h) (x : Str) : env.kindOf x = sc.names.lookup x := by
  unfold Env.kindOf; rw [V.scope]

/-- a name of the frame -/
theorem Ev.name (hx : Γ.lookup x = some b) (hd : (x == ("__debug__" : Str)) = false) : Ev c n sc Γ σ (.Name x pos) b σ := by
  refine ⟨?_⟩
  intro A env s W Q E _ V S hQ
  obtain ⟨m, cm, hn, hc, hg⟩ := V.frame
  obtain ⟨v, h1, h2⟩ := hg x b hx
  unfold slotOf at h1
  have hk : env.scope.kind = .function := by rw [V.scope]; exact V.kind
  refine wpAny_Name ?_ hd
  cases hl : sc.names.lookup x with
  | none => rw [hl] at h1; cases h1
  | some kd =>
    rw [hl] at h1
    cases kd with
    | «local» => exact wpAny_loadName_local hk (by rw [V.kindOf, hl]) hn h1 (hQ _ _ W (Step.refl _ _) S h2)
    | cell =>
      obtain ⟨a, ha⟩ := V.has x hl
      have hcell := hc x a ha
      simp only at h1
      rw [h1] at hcell
      exact wpAny_loadName_cell hk (by rw [V.kindOf, hl]) ha hcell (hQ _ _ W (Step.refl _ _) S h2)
    | _ => cases h1

theorem St.ns {W : List Addr} {s : Shared} (S : St c W σ s) {a : Addr} {m : Str → Option Value} (h : c.hb.Ns a m) : s.heap.Ns a m := h.keeps fun b o e => S.base b o e

theorem St.baseMoves {W : List Addr} {s : Shared} (S : St c W σ s) : Moves [] W c.hb s.heap :=
  { lists := fun _ h => (nomatch h), fresh := fun b hb _ => S.fresh b hb, keep := fun b o _ e => S.base b o e }

/-- a global name that holds a datum -/
theorem Ev.gval {v : Value} {d : PyData} (hl : sc.names.lookup x = some .globalImplicit) (hv : nsIn c.K mainGlobals x = some (some v)) (hr : Rep [] c.hb v d) (hd : (x == ("__debug__" : Str)) = false) :
    Ev c n sc Γ σ (.Name x pos) (.val d) σ := by
  refine ⟨?_⟩
  intro A env s W Q E _ V S hQ
  have hk : env.scope.kind = .function := by rw [V.scope]; exact V.kind
  refine Name_function_global hk (by rw [V.kindOf, hl]) (loadGlobal_global (mg := c.mg) ?_ (mg_of c.X c.g hv) (hQ _ _ W (Step.refl _ _) S (hr.move S.baseMoves))) hd
  rw [V.glob]; exact S.ns c.g

theorem Room.u {A : Around} (R : Room n A) : A.units + 64 < cLine := by
  have := R.units
  have h2 : cLine = 9900 := rfl
  omega

/-- a binary operation on data -/
theorem Ev.bin {o : Operator} {d₁ d₂ d : PyData} (h₁ : Ev c n sc Γ σ l (.val d₁) σ₁) (h₂ : Ev c n sc Γ σ₁ r (.val d₂) σ₂) (h : BinR c o d₁ d₂ d) : Ev c n sc Γ σ (.BinOp l o r pos) (.val d) σ₂ := by
  refine ⟨?_⟩
  intro A env s W Q E R V S hQ
  refine wpAny_BinOp (h₁.run A env s W _ _ R V S fun v s' W' st S' rv => ?_)
  refine h₂.run A env s' W' _ _ R (V.move (st.moves S.lists) st.pre) S' fun u s'' W'' st' S'' ru => ?_
  have rv' : Rep W'' s''.heap v d₁ := Rep.move (st'.moves S'.lists) rv
  refine h A s'' W'' v u _ _ R.zero S''.lists rv' ru fun q h' tk kp rq => ?_
  exact hQ _ _ W'' ((st.trans st').trans (Step.of_keeps kp)) (S''.keeps kp) rq

noncomputable def seen (σ : Sto) : B → Option PyData
  | .val d => some d
  | .cell i => (σ[i]?).map .list
  | .raw _ => none

theorem St.shows {W : List Addr} {s : Shared} (S : St c W σ s) {v : Value} {d : PyData} (hb : RepB W s.heap v b) (hs : seen σ b = some d) : (∃ as, Reads s.heap v d as) ∧ d.canLay0 = true := by
  cases b with
  | val d' => cases hs; exact Rep.reads hb
  | raw u => cases hs
  | cell i =>
    obtain ⟨a, ha, rfl⟩ := hb
    simp only [seen, Option.map_eq_some_iff] at hs
    obtain ⟨ds, hd, rfl⟩ := hs
    obtain ⟨a', vs, m, h1, h2, h3⟩ := S.cell i ds hd
    rw [ha] at h1; cases h1
    obtain ⟨⟨as, q⟩, k⟩ := h3.reads
    exact ⟨⟨_, .list h2 rfl rfl (by simpa using q)⟩, by simp [PyData.canLay0, k]⟩

/-- a comparison of data -/
noncomputable def CmpR (c : Cx) (op : CmpOp) (a b : PyData) (res : Bool) : Prop :=
  ∀ (A : Around) (s : Shared) (v u : Value) (Q : Value → Shared → Prop) (E : Value → Shared → Prop) (as bs : List Addr),
    Room 0 A → Reads s.heap v a as → a.canLay0 = true → Reads s.heap u b bs → b.canLay0 = true → Q (.bool res) s → wpAny c.M A (compareOp op v u) Q E s

theorem cmp_eq {a b : PyData} {res : Bool} (hd : min a.depth b.depth ≤ 60) (hr : PyData.eqv a b = res) : CmpR c .Eq a b res := by
  intro A s v u Q E as bs R ra ka rb kb h
  have := R.u
  exact SeqAt.compareEq_reads ra rb ka kb (by omega) (hr ▸ h)
theorem cmp_ne {a b : PyData} {res : Bool} (hd : min a.depth b.depth ≤ 60) (hr : (!PyData.eqv a b) = res) : CmpR c .NotEq a b res := by
  intro A s v u Q E as bs R ra ka rb kb h
  have := R.u
  exact SeqAt.compareNe_reads ra rb ka kb (by omega) (hr ▸ h)
theorem cmp_in_list {a : PyData} {xs : List PyData} {res : Bool} (hd : min (PyData.depthAll xs) a.depth ≤ 60) (hr : (xs.any fun y => PyData.eqv y a) = res) : CmpR c .In a (.list xs) res := by
  intro A s v u Q E as bs R ra ka rb kb h
  have := R.u
  exact SeqAt.in_list_reads rb ra (by simpa [PyData.canLay0] using kb) ka (by omega) (hr ▸ h)
theorem cmp_in_tuple {a : PyData} {xs : List PyData} {res : Bool} (hd : min (PyData.depthAll xs) a.depth ≤ 60) (hr : (xs.any fun y => PyData.eqv y a) = res) : CmpR c .In a (.tuple xs) res := by
  intro A s v u Q E as bs R ra ka rb kb h
  have := R.u
  exact SeqAt.in_tuple_reads rb ra (by simpa [PyData.canLay0] using kb) ka (by omega) (hr ▸ h)
theorem cmp_notIn_list {a : PyData} {xs : List PyData} {res : Bool} (hd : min (PyData.depthAll xs) a.depth ≤ 60) (hr : (!xs.any fun y => PyData.eqv y a) = res) : CmpR c .NotIn a (.list xs) res := by
  intro A s v u Q E as bs R ra ka rb kb h
  have := R.u
  exact SeqAt.notIn_list_reads rb ra (by simpa [PyData.canLay0] using kb) ka (by omega) (hr ▸ h)
theorem cmp_notIn_tuple {a : PyData} {xs : List PyData} {res : Bool} (hd : min (PyData.depthAll xs) a.depth ≤ 60) (hr : (!xs.any fun y => PyData.eqv y a) = res) : CmpR c .NotIn a (.tuple xs) res := by
  intro A s v u Q E as bs R ra ka rb kb h
  have := R.u
  exact SeqAt.notIn_tuple_reads rb ra (by simpa [PyData.canLay0] using kb) ka (by omega) (hr ▸ h)
noncomputable def isNone : PyData → Bool
  | .none => true
  | _ => false
theorem reads_none {h : Heap} {v : Value} {a : PyData} {as : List Addr} (r : Reads h v a as) : plainIs v .none = true ∧ (v == Value.none) = isNone a := by
  cases r <;> exact ⟨rfl, rfl⟩
theorem cmp_is {a : PyData} {res : Bool} (hr : isNone a = res) : CmpR c .Is a .none res := by
  intro A s v u Q E as bs R ra ka rb kb h
  cases rb
  obtain ⟨h1, h2⟩ := reads_none ra
  exact wpAny_is_plain h1 (by rw [h2, hr]; exact h)
theorem cmp_isNot {a : PyData} {res : Bool} (hr : (!isNone a) = res) : CmpR c .IsNot a .none res := by
  intro A s v u Q E as bs R ra ka rb kb h
  cases rb
  obtain ⟨h1, h2⟩ := reads_none ra
  exact wpAny_isNot_plain h1 (by rw [h2, hr]; exact h)
theorem cmp_le {i j : Int} {res : Bool} (hr : decide (i ≤ j) = res) : CmpR c .LtE (.int i) (.int j) res := by
  intro A s v u Q E as bs R ra ka rb kb h
  cases ra; cases rb
  exact P.le_int (hr ▸ h)
theorem cmp_lt {i j : Int} {res : Bool} (hr : decide (i < j) = res) : CmpR c .Lt (.int i) (.int j) res := by
  intro A s v u Q E as bs R ra ka rb kb h
  cases ra; cases rb
  exact P.lt_int (hr ▸ h)
theorem cmp_ge {i j : Int} {res : Bool} (hr : decide (j ≤ i) = res) : CmpR c .GtE (.int i) (.int j) res := by
  intro A s v u Q E as bs R ra ka rb kb h
  cases ra; cases rb
  exact P.ge_int (hr ▸ h)
theorem cmp_gt {i j : Int} {res : Bool} (hr : decide (j < i) = res) : CmpR c .Gt (.int i) (.int j) res := by
  intro A s v u Q E as bs R ra ka rb kb h
  cases ra; cases rb
  exact P.gt_int (hr ▸ h)

theorem Ev.cmpTail {d₁ d₂ : PyData} {res : Bool} (h₁ : Ev c n sc Γ σ l b₁ σ₁) (h₂ : Ev c n sc Γ σ₁ r b₂ σ₂) (s₁ : seen σ₂ b₁ = some d₁) (s₂ : seen σ₂ b₂ = some d₂) (h : CmpR c op d₁ d₂ res)
    {A : Around} {env : Env} {s : Shared} {W : List Addr} {Q : Value → Shared → Prop} {E : Value → Shared → Prop} (R : Room n A) (V : Vars W env sc Γ s.heap) (S : St c W σ s)
    (hQ : ∀ s' W', Step W W' s s' → St c W' σ₂ s' → Q (.bool res) s') :
    wpAny c.M A (eval l env) (fun a t₁ => wpAny c.M A (eval r env) (fun b t₂ => wpAny c.M A (compareOp op a b) Q E t₂) E t₁) E s := by
  refine h₁.run A env s W _ _ R V S fun v s' W' st S' rv => ?_
  refine h₂.run A env s' W' _ _ R (V.move (st.moves S.lists) st.pre) S' fun u s'' W'' st' S'' ru => ?_
  have rv' := rv.move (st'.moves S'.lists) st'.pre
  obtain ⟨⟨as, q1⟩, k1⟩ := S''.shows rv' s₁
  obtain ⟨⟨bs, q2⟩, k2⟩ := S''.shows ru s₂
  exact h A s'' v u _ _ as bs R.zero q1 k1 q2 k2 (hQ _ W'' (st.trans st') S'')

theorem Ev.cmp {d₁ d₂ : PyData} {res : Bool} (h₁ : Ev c n sc Γ σ l b₁ σ₁) (h₂ : Ev c n sc Γ σ₁ r b₂ σ₂) (s₁ : seen σ₂ b₁ = some d₁) (s₂ : seen σ₂ b₂ = some d₂) (h : CmpR c op d₁ d₂ res)
    (hm : behindInMarks op r = false) : Ev c n sc Γ σ (.Compare l [op] [r] pos) (.val (.bool res)) σ₂ := by
  refine ⟨?_⟩
  intro A env s W Q E R V S hQ
  exact wpAny_Compare1 (Ev.cmpTail h₁ h₂ s₁ s₂ h R V S fun s' W' st S' => hQ _ _ W' st S' (.bool _)) hm
theorem Tst.cmp {d₁ d₂ : PyData} {res : Bool} (h₁ : Ev c n sc Γ σ l b₁ σ₁) (h₂ : Ev c n sc Γ σ₁ r b₂ σ₂) (s₁ : seen σ₂ b₁ = some d₁) (s₂ : seen σ₂ b₂ = some d₂) (h : CmpR c op d₁ d₂ res)
    (hm : behindInMarks op r = false) : Tst c n sc Γ σ (.Compare l [op] [r] pos) res σ₂ := by
  refine ⟨?_⟩
  intro A env s W Q E R V S hQ
  exact wpAny_isTrue_Compare1 (Ev.cmpTail h₁ h₂ s₁ s₂ h R V S fun s' W' st S' => wpAny_truthy_bool (hQ _ W' st S')) hm

theorem Tst.not {res : Bool} (h : Tst c n sc Γ σ e res σ₁) : Tst c n sc Γ σ (.UnaryOp .Not e pos) (!res) σ₁ := by
  refine ⟨?_⟩
  intro A env s W Q E R V S hQ
  exact isTrue_not (h.run A env s W _ _ R V S fun s' W' st S' => hQ _ W' st S')
theorem Tst.andNil : Tst c n sc Γ σ (.BoolOp .And [] pos) true σ := .mk fun A env s W Q E R V S hQ => isTrue_and_nil (hQ _ W (Step.refl _ _) S)
theorem Tst.orNil : Tst c n sc Γ σ (.BoolOp .Or [] pos) false σ := .mk fun A env s W Q E R V S hQ => isTrue_or_nil (hQ _ W (Step.refl _ _) S)
theorem Tst.and {es : List Expr} {p q : Bool} (h₁ : Tst c n sc Γ σ e p σ) (h₂ : p = true → Tst c n sc Γ σ (.BoolOp .And es pos) q σ) : Tst c n sc Γ σ (.BoolOp .And (e :: es) pos) (p && q) σ := by
  refine ⟨?_⟩
  intro A env s W Q E R V S hQ
  refine isTrue_and (h₁.run A env s W _ _ R V S fun s' W' st S' => ?_)
  cases p with
  | false => exact hQ _ W' st S'
  | true => exact (h₂ rfl).run A env s' W' _ _ R (V.move (st.moves S.lists) st.pre) S' fun s'' W'' st' S'' => hQ _ W'' (st.trans st') S''
theorem Tst.or {es : List Expr} {p q : Bool} (h₁ : Tst c n sc Γ σ e p σ) (h₂ : p = false → Tst c n sc Γ σ (.BoolOp .Or es pos) q σ) : Tst c n sc Γ σ (.BoolOp .Or (e :: es) pos) (p || q) σ := by
  refine ⟨?_⟩
  intro A env s W Q E R V S hQ
  refine isTrue_or (h₁.run A env s W _ _ R V S fun s' W' st S' => ?_)
  cases p with
  | true => exact hQ _ W' st S'
  | false => exact (h₂ rfl).run A env s' W' _ _ R (V.move (st.moves S.lists) st.pre) S' fun s'' W'' st' S'' => hQ _ W'' (st.trans st') S''
/-- a test that is a plain expression -/
theorem Tst.val {p : Bool} (h : Ev c n sc Γ σ e (.val (.bool p)) σ₁) (he : ∀ env whole, isTrue e env whole = (do let v ← whole; standAt e.pos; holding [v] (truthy v))) : Tst c n sc Γ σ e p σ₁ := by
  refine ⟨?_⟩
  intro A env s W Q E R V S hQ
  refine isTrue_plain (h.run A env s W _ _ R V S fun v s' W' st S' rv => ?_) (he _ _)
  cases rv
  exact wpAny_truthy_bool (hQ _ W' st S')

theorem Ev.not {p : Bool} (h : Ev c n sc Γ σ e (.val (.bool p)) σ₁) : Ev c n sc Γ σ (.UnaryOp .Not e pos) (.val (.bool (!p))) σ₁ := by
  refine ⟨?_⟩
  intro A env s W Q E R V S hQ
  refine UnaryOp_ (h.run A env s W _ _ R V S fun v s' W' st S' rv => ?_)
  cases rv
  exact not_of (wpAny_truthy_bool (hQ _ _ W' st S' (.bool _)))
theorem Ev.boolOne {o : BoolOp} (h : Ev c n sc Γ σ e b σ₁) : Ev c n sc Γ σ (.BoolOp o [e] pos) b σ₁ := .mk fun A env s W Q E R V S hQ => BoolOp_one (h.run A env s W _ _ R V S hQ)
theorem Ev.and {e₂ : Expr} {es : List Expr} {p q : Bool} (h₁ : Ev c n sc Γ σ e (.val (.bool p)) σ) (h₂ : p = true → Ev c n sc Γ σ (.BoolOp .And (e₂ :: es) pos) (.val (.bool q)) σ) :
    Ev c n sc Γ σ (.BoolOp .And (e :: e₂ :: es) pos) (.val (.bool (p && q))) σ := by
  refine ⟨?_⟩
  intro A env s W Q E R V S hQ
  refine BoolOp_and (h₁.run A env s W _ _ R V S fun v s' W' st S' rv => ?_)
  cases rv
  refine wpAny_truthy_bool ?_
  cases p with
  | false => exact hQ _ _ W' st S' (.bool _)
  | true => exact (h₂ rfl).run A env s' W' _ _ R (V.move (st.moves S.lists) st.pre) S' fun v s'' W'' st' S'' rv => hQ _ _ W'' (st.trans st') S'' rv
theorem Ev.or {e₂ : Expr} {es : List Expr} {p q : Bool} (h₁ : Ev c n sc Γ σ e (.val (.bool p)) σ) (h₂ : p = false → Ev c n sc Γ σ (.BoolOp .Or (e₂ :: es) pos) (.val (.bool q)) σ) :
    Ev c n sc Γ σ (.BoolOp .Or (e :: e₂ :: es) pos) (.val (.bool (p || q))) σ := by
  refine ⟨?_⟩
  intro A env s W Q E R V S hQ
  refine BoolOp_or (h₁.run A env s W _ _ R V S fun v s' W' st S' rv => ?_)
  cases rv
  refine wpAny_truthy_bool ?_
  cases p with
  | true => exact hQ _ _ W' st S' (.bool _)
  | false => exact (h₂ rfl).run A env s' W' _ _ R (V.move (st.moves S.lists) st.pre) S' fun v s'' W'' st' S'' rv => hQ _ _ W'' (st.trans st') S'' rv
theorem Ev.ifexp {t : Expr} {p : Bool} (h : Tst c n sc Γ σ t p σ₁) (h₂ : if p then Ev c n sc Γ σ₁ l b σ₂ else Ev c n sc Γ σ₁ r b σ₂) : Ev c n sc Γ σ (.IfExp t l r pos) b σ₂ := by
  refine ⟨?_⟩
  intro A env s W Q E R V S hQ
  refine IfExp_ (h.run A env s W _ _ R V S fun s' W' st S' => ?_)
  cases p with
  | true => exact h₂.run A env s' W' _ _ R (V.move (st.moves S.lists) st.pre) S' fun v s'' W'' st' S'' rv => hQ _ _ W'' (st.trans st') S'' rv
  | false => exact h₂.run A env s' W' _ _ R (V.move (st.moves S.lists) st.pre) S' fun v s'' W'' st' S'' rv => hQ _ _ W'' (st.trans st') S'' rv
end
section
variable {prog : Program} {w : World} {A : Around} {E : Value → Shared → Prop} {s : Shared}

theorem adjust_upto (b n : Nat) (hb : b ≤ n) : Builtin.Slice.sliceAdjust none (some (b : Int)) 1 (n : Int) = (0, (b : Int)) := by
  unfold Builtin.Slice.sliceAdjust
  have h1 : ¬ ((1 : Int) < 0) := by omega
  have h2 : ¬ ((b : Int) < 0) := by omega
  simp only [h1, h2, if_false]
  congr 1
  omega
theorem places_upto (b : Nat) : Builtin.Slice.slicePlaces 0 (b : Int) 1 = b := by
  unfold Builtin.Slice.slicePlaces
  have h1 : (1 : Int) > 0 := by omega
  simp only [h1, if_true, Int.ediv_one]
  split <;> omega

theorem sliceApplied_upto {sl : Addr} {b n : Nat} {u : Tok} {Q : Int × Int × Nat → Shared → Prop} (hs : s.heap.IsSliceOf sl .none (.int b u) .none) (hb : b ≤ n) (h : Q (0, 1, b) s) :
    wpAny (model prog w) A (Builtin.Slice.sliceApplied (.ref sl) (pure (n : Int))) Q E s := by
  obtain ⟨os, hos, hcs, hds⟩ := id hs
  unfold Builtin.Slice.sliceApplied Builtin.Slice.sliceFields
  refine wpAny_bind (wpAny_bind (wpAny_field hos hds (x := .none) rfl (wpAny_bind (wpAny_field hos hds (x := .int b u) rfl (wpAny_bind (wpAny_field hos hds (x := .none) rfl (wpAny_pure ?_)))))))
  refine wpAny_bind (slicePart_none ?_)
  show wpAny _ _ (if ((1 : Int) == 0) = true then _ else _) _ _ s
  rw [if_neg (by decide)]
  refine wpAny_bind (slicePart_none (wpAny_bind (slicePart_int (wpAny_bind (wpAny_pure ?_)))))
  show wpAny _ _ (match Builtin.Slice.sliceAdjust none (some (b : Int)) 1 (n : Int) with | (lo, hi) => pure (lo, (1 : Int), Builtin.Slice.slicePlaces lo hi 1)) _ _ s
  rw [adjust_upto b n hb]
  show wpAny _ _ (pure ((0 : Int), (1 : Int), Builtin.Slice.slicePlaces 0 (b : Int) 1)) _ _ s
  rw [places_upto b]
  exact wpAny_pure h

theorem pick_upto (xs : Array Value) (b : Nat) : ((List.range b).filterMap fun (k : Nat) => xs[((0 : Int) + (k : Int) * 1).toNat]?).toArray = (xs.toList.take b).toArray := by
  have e : (fun (k : Nat) => xs[((0 : Int) + (k : Int) * 1).toNat]?) = fun k => xs[0 + k]? := by
    funext k
    have : ((0 : Int) + (k : Int) * 1).toNat = 0 + k := by omega
    rw [this]
  rw [e]
  have := pick_run xs 0 b
  rw [List.filterMap_map] at this
  have e2 : ((fun x => xs[x]?) ∘ fun x => 0 + x) = fun k => xs[0 + k]? := rfl
  rw [e2] at this
  rw [this, List.drop_zero]

theorem getItem_tuple_upto {t sl : Addr} {items : Array Value} {b : Nat} {u : Tok} {Q : Value → Shared → Prop} (ht : IsTup s.heap t items) (hs : s.heap.IsSliceOf sl .none (.int b u) .none) (hb : b < items.size)
    (h : Q (.ref s.heap.objs.size) { s with heap := s.heap.push { cls := .type "tuple", data := .seq (items.toList.take b).toArray } })
    (hsz : items.size ≤ sizeLine := by size_fits) : wpAny (model prog w) A (getItem (.ref t) (.ref sl)) Q E s := by
  have htake : sizeOk (.seq (items.toList.take b).toArray) := by
    show (items.toList.take b).toArray.size ≤ sizeLine
    rw [List.size_toArray, List.length_take, Array.length_toList]
    omega
  obtain ⟨os, hos, hcs, hds⟩ := id hs
  have hTs : s.TypeIs (.ref sl) "slice" := ⟨os, hos, hcs⟩
  unfold getItem
  try with_reducible refine wpAny_holding ?_
  first | refine wpAny_bind (wpAny_pure ?_) | skip
  refine wpAny_bind (wpAny_sequenceKey ht.typeIs (by decide) ?_)
  refine wpAny_bind (wpAny_callSpecial?_slot (name := Str.ofString "__getitem__") ht.typeIs slot_tuple_getitem
    (wpAny_call_entry slot_tuple_getitem ht.typeIs entry_tuple_getitem ?_ (args_tuple_getitem _ _)))
  show wpAny _ _ (Builtin.Tuple.tupleItemsOf (.ref t) >>= _) _ _ s
  refine wpAny_bind (tupleItemsOf_ ht ?_)
  refine wpAny_bind (wpAny_typeOf hTs ?_)
  rw [if_pos (by decide)]
  refine wpAny_bind (sliceApplied_upto hs (Nat.le_of_lt hb) ?_)
  have hno : ¬ (((0 : Int) == 0 && (1 : Int) == 1 && b == items.size) = true) := by
    have : (b == items.size) = false := by rw [beq_eq_false_iff_ne]; omega
    rw [this]; simp
  show wpAny _ _ (if ((0 : Int) == 0 && (1 : Int) == 1 && b == items.size) = true then _ else _) _ _ s
  rw [if_neg hno, pick_upto items b]
  first
    | exact wpAny_bind (m := Builtin.Tuple.tupleExact _) (wpAny_newObj_type (wpAny_pure ⟨_, rfl, wpAny_pure h⟩) htake)
    | exact wpAny_bind (m := Builtin.Tuple.tupleExact _) (wpAny_newObj_type (wpAny_bind (wpAny_pure (wpAny_pure ⟨_, rfl, wpAny_pure h⟩))) htake)
    | exact wpAny_bind (wpAny_bind (m := Builtin.Tuple.tupleExact _) (wpAny_newObj_type (wpAny_pure (wpAny_pure ⟨_, rfl, wpAny_pure h⟩)) htake))
    | exact wpAny_bind (wpAny_bind (m := Builtin.Tuple.tupleExact _) (wpAny_newObj_type (wpAny_pure ⟨_, rfl, wpAny_pure h⟩) htake))
end

section
variable {c : Cx} {n : Nat} {sc : Scope} {Γ : Gam} {σ σ₁ σ₂ : Sto} {e l r : Expr} {pos : Pos} {b b₁ b₂ : B} {k : Nat} {x : Str} {op : CmpOp}

/-- an item of a tuple or a list -/
theorem Ev.item {d : PyData} {i : Int} {xs : List PyData} {y : PyData} (h₁ : Ev c n sc Γ σ l (.val d) σ₁) (h₂ : Ev c n sc Γ σ₁ r (.val (.int i)) σ₂) (hd : d = .tuple xs ∨ d = .list xs)
    (h0 : 0 ≤ i) (h1 : i < 2 ^ 62) (hy : xs[i.toNat]? = some y) (hs : ∀ o i, subscripted r false o i = operate [o, i] (getItem o i)) : Ev c n sc Γ σ (.Subscript l r pos) (.val y) σ₂ := by
  refine ⟨?_⟩
  intro A env s W Q E R V S hQ
  refine Subscript_ (h₁.run A env s W _ _ R V S fun v s' W' st S' rv => ?_)
  refine h₂.run A env s' W' _ _ R (V.move (st.moves S.lists) st.pre) S' fun u s'' W'' st' S'' ru => ?_
  have rv' : Rep W'' s''.heap v d := Rep.move (st'.moves S'.lists) rv
  cases ru with
  | int _ t =>
    rcases hd with rfl | rfl
    · cases rv' with
      | @tuple a vs m _ e1 r1 =>
        obtain ⟨z, hz, rz⟩ := r1.get hy
        have hlt : i.toNat < vs.length := (List.getElem?_eq_some_iff.mp hz).1
        have hj : seqIndex? i vs.toArray.size = some i.toNat := by
          unfold seqIndex?
          have h3 : ¬ i < 0 := by omega
          have h4 : i < (vs.toArray.size : Int) := by rw [List.size_toArray]; omega
          simp only [h3, if_false]
          rw [decide_eq_true h0, decide_eq_true h4]; rfl
        refine tail_any (T := "tuple") ⟨_, e1, rfl⟩ slot_tuple_getitem.lookup (PyProof.Rows.getItem_tuple (x := z) ⟨_, e1, rfl, _, rfl⟩ (by omega) (by omega) hj (by simpa using hz) ?_) (hs _ _)
        exact hQ _ _ W'' (st.trans st') S'' rz
    · cases rv' with
      | @list a vs m _ e1 _ r1 =>
        obtain ⟨z, hz, rz⟩ := r1.get hy
        refine tail_any (T := "list") ⟨_, e1, rfl⟩ slot_list_getitem.lookup (wpAny_getItem_list (x := z) ⟨_, e1, rfl, _, rfl⟩ h0 (by omega) (by simpa using hz) ?_) (hs _ _)
        exact hQ _ _ W'' (st.trans st') S'' rz
/-- an item of a list that turns -/
theorem Ev.itemCell {j : Nat} {i : Int} {xs : List PyData} {y : PyData} (h₁ : Ev c n sc Γ σ l (.cell j) σ₁) (h₂ : Ev c n sc Γ σ₁ r (.val (.int i)) σ₂) (hd : σ₂[j]? = some xs)
    (h0 : 0 ≤ i) (h1 : i < 2 ^ 62) (hy : xs[i.toNat]? = some y) (hs : ∀ o i, subscripted r false o i = operate [o, i] (getItem o i)) : Ev c n sc Γ σ (.Subscript l r pos) (.val y) σ₂ := by
  refine ⟨?_⟩
  intro A env s W Q E R V S hQ
  refine Subscript_ (h₁.run A env s W _ _ R V S fun v s' W' st S' rv => ?_)
  refine h₂.run A env s' W' _ _ R (V.move (st.moves S.lists) st.pre) S' fun u s'' W'' st' S'' ru => ?_
  obtain ⟨a, ha, rfl⟩ := rv.move (st'.moves S'.lists) st'.pre
  obtain ⟨a', vs, m, g1, e1, r1⟩ := S''.cell j xs hd
  rw [ha] at g1; cases g1
  cases ru with
  | int _ t =>
    obtain ⟨z, hz, rz⟩ := r1.get hy
    refine tail_any (T := "list") ⟨_, e1, rfl⟩ slot_list_getitem.lookup (wpAny_getItem_list (x := z) ⟨_, e1, rfl, _, rfl⟩ h0 (by omega) (by simpa using hz) ?_) (hs _ _)
    exact hQ _ _ W'' (st.trans st') S'' rz
end
theorem slicePick_last (items : Array Value) (k : Nat) (hk : 0 < k) : slicePick items (some (-(k : Int))) none none = (items.toList.drop (items.size - k)).toArray := by
  have hb : sliceBounds (some (-(k : Int))) none none items.size = (((items.size - k : Nat) : Int), (items.size : Int), 1) := by
    unfold sliceBounds
    simp only [Option.getD_none, Int.reduceGT, if_true]
    congr 1
    rw [if_pos (by omega)]
    omega
  rw [kmk_pick_nat items hb, List.take_of_length_le (by rw [List.length_drop, Array.length_toList]; omega)]

section
variable {c : Cx} {n : Nat} {sc : Scope} {Γ : Gam} {σ σ₁ σ₂ : Sto} {e l r : Expr} {pos p p1 p2 : Pos} {b b₁ b₂ : B} {k : Nat} {x : Str} {op : CmpOp}

theorem Ev.sliceRev {xs : List PyData} {k0 : Nat} (h₁ : Ev c n sc Γ σ l (.val (.list xs)) σ₁) (hz : xs.length ≤ sizeLine) :
    Ev c n sc Γ σ (.Subscript l (.Slice none none (some (.UnaryOp .USub (.Constant (.int 1) k0 p1) p2)) p) pos) (.val (.list xs.reverse)) σ₁ := by
  refine ⟨?_⟩
  intro A env s W Q E R V S hQ
  refine Subscript_ (h₁.run A env s W _ _ R V S fun v s' W' st S' rv => ?_)
  refine wpAny_Slice ?_
  rw [evalPart_none, evalPart_some]
  refine wpAny_pure (wpAny_pure (UnaryOp_ (wpAny_Constant_int (P.neg_int ?_))))
  dsimp only
  cases rv with
  | @list a vs m _ e1 _ r1 =>
    have hlst : (s'.heap.push { cls := .type "slice", data := .fields #[.none, .none, .int (-1) (s'.toks + 1)] }).IsList a vs.toArray := ⟨_, Heap.get?_push_of_some _ e1, rfl, _, rfl⟩
    refine tail_any (T := "list") (ops := [.ref a, .ref s'.heap.objs.size]) ⟨_, Heap.get?_push_of_some _ e1, rfl⟩ slot_list_getitem.lookup ?_ rfl
    refine wpAny_getItem_list_slice (lo := none) (hi := none) (st := some (-1)) hlst (Heap.IsSliceOf.new ..) .none .none (.int _ _) (by decide) ?_ (by simp [r1.length]; exact hz)
    rw [krv_pick]
    have kp : ∀ b o, s'.heap.get? b = some o → ((s'.heap.push { cls := .type "slice", data := .fields #[.none, .none, .int (-1) (s'.toks + 1)] }).push (lObj vs.reverse 0)).get? b = some o :=
      fun b o e => Heap.get?_push_of_some _ (Heap.get?_push_of_some _ e)
    have kp1 : ∀ b o, s'.heap.get? b = some o → (s'.heap.push { cls := .type "slice", data := .fields #[.none, .none, .int (-1) (s'.toks + 1)] }).get? b = some o :=
      fun b o e => Heap.get?_push_of_some _ e
    refine hQ _ _ W' (st.trans (Step.of_keeps kp)) (S'.keeps kp) ?_
    have S1 : St c W' σ₁ { s' with heap := s'.heap.push { cls := .type "slice", data := .fields #[.none, .none, .int (-1) (s'.toks + 1)] }, toks := s'.toks } := S'.keeps kp1
    exact Rep.newList S1.lists ((r1.keeps S'.lists kp1).reverse)

theorem Ev.sliceLast {xs : List PyData} {k0 m : Nat} (hm : 0 < m) (h₁ : Ev c n sc Γ σ l (.val (.list xs)) σ₁) (hz : xs.length ≤ sizeLine) :
    Ev c n sc Γ σ (.Subscript l (.Slice (some (.UnaryOp .USub (.Constant (.int m) k0 p1) p2)) none none p) pos) (.val (.list (xs.drop (xs.length - m)))) σ₁ := by
  refine ⟨?_⟩
  intro A env s W Q E R V S hQ
  refine Subscript_ (h₁.run A env s W _ _ R V S fun v s' W' st S' rv => ?_)
  refine wpAny_Slice ?_
  rw [evalPart_none, evalPart_some]
  refine UnaryOp_ (wpAny_Constant_int (P.neg_int (wpAny_pure (wpAny_pure ?_))))
  dsimp only
  cases rv with
  | @list a vs q _ e1 _ r1 =>
    have hlst : (s'.heap.push { cls := .type "slice", data := .fields #[.int (-(m : Int)) (s'.toks + 1), .none, .none] }).IsList a vs.toArray := ⟨_, Heap.get?_push_of_some _ e1, rfl, _, rfl⟩
    refine tail_any (T := "list") (ops := [.ref s'.heap.objs.size, .ref a]) ⟨_, Heap.get?_push_of_some _ e1, rfl⟩ slot_list_getitem.lookup ?_ rfl
    refine wpAny_getItem_list_slice (lo := some (-(m : Int))) (hi := none) (st := none) hlst (Heap.IsSliceOf.new ..) (.int _ _) .none .none (by decide) ?_ (by simp [r1.length]; exact hz)
    rw [slicePick_last _ _ hm]
    have kp : ∀ b o, s'.heap.get? b = some o → ((s'.heap.push { cls := .type "slice", data := .fields #[.int (-(m : Int)) (s'.toks + 1), .none, .none] }).push (lObj (vs.drop (xs.length - m)) 0)).get? b = some o :=
      fun b o e => Heap.get?_push_of_some _ (Heap.get?_push_of_some _ e)
    have kp1 : ∀ b o, s'.heap.get? b = some o → (s'.heap.push { cls := .type "slice", data := .fields #[.int (-(m : Int)) (s'.toks + 1), .none, .none] }).get? b = some o :=
      fun b o e => Heap.get?_push_of_some _ e
    have hsz : vs.toArray.size = xs.length := by simp [r1.length]
    rw [hsz]
    refine hQ _ _ W' (st.trans (Step.of_keeps kp)) (S'.keeps kp) ?_
    have S1 : St c W' σ₁ { s' with heap := s'.heap.push { cls := .type "slice", data := .fields #[.int (-(m : Int)) (s'.toks + 1), .none, .none] }, toks := s'.toks } := S'.keeps kp1
    exact Rep.newList S1.lists ((r1.keeps S'.lists kp1).drop _)

theorem Ev.sliceUpto {xs : List PyData} {k0 m : Nat} (h₁ : Ev c n sc Γ σ l (.val (.tuple xs)) σ₁) (hm : m < xs.length) (hz : xs.length ≤ sizeLine) :
    Ev c n sc Γ σ (.Subscript l (.Slice none (some (.Constant (.int m) k0 p1)) none p) pos) (.val (.tuple (xs.take m))) σ₁ := by
  refine ⟨?_⟩
  intro A env s W Q E R V S hQ
  refine Subscript_ (h₁.run A env s W _ _ R V S fun v s' W' st S' rv => ?_)
  refine wpAny_Slice ?_
  rw [evalPart_none, evalPart_some]
  refine wpAny_pure (wpAny_Constant_int (wpAny_pure ?_))
  dsimp only
  cases rv with
  | @tuple a vs q _ e1 r1 =>
    have hsz : vs.toArray.size = xs.length := by simp [r1.length]
    have htup : IsTup (s'.heap.push { cls := .type "slice", data := .fields #[.none, .int m s'.toks, .none] }) a vs.toArray := ⟨_, Heap.get?_push_of_some _ e1, rfl, _, rfl⟩
    refine tail_any (T := "tuple") (ops := [.ref s'.heap.objs.size, .ref a]) ⟨_, Heap.get?_push_of_some _ e1, rfl⟩ slot_tuple_getitem.lookup ?_ rfl
    refine getItem_tuple_upto htup (Heap.IsSliceOf.new ..) (by rw [hsz]; exact hm) ?_ (by rw [hsz]; exact hz)
    have kp : ∀ b o, s'.heap.get? b = some o → ((s'.heap.push { cls := .type "slice", data := .fields #[.none, .int m s'.toks, .none] }).push (tObj (vs.take m) 0)).get? b = some o :=
      fun b o e => Heap.get?_push_of_some _ (Heap.get?_push_of_some _ e)
    have kp1 : ∀ b o, s'.heap.get? b = some o → (s'.heap.push { cls := .type "slice", data := .fields #[.none, .int m s'.toks, .none] }).get? b = some o :=
      fun b o e => Heap.get?_push_of_some _ e
    refine hQ _ _ W' (st.trans (Step.of_keeps kp)) (S'.keeps kp) ?_
    have S1 : St c W' σ₁ { s' with heap := s'.heap.push { cls := .type "slice", data := .fields #[.none, .int m s'.toks, .none] }, toks := s'.toks } := S'.keeps kp1
    exact Rep.newTuple S1.lists ((r1.keeps S'.lists kp1).take _)

/-- several expressions, left to right -/
structure Evs (c : Cx) (n : Nat) (sc : Scope) (Γ : Gam) (σ : Sto) (es : List Expr) (bs : List B) (σ' : Sto) : Prop where
  run : ∀ (A : Around) (env : Env) (s : Shared) (W : List Addr) (pos : Pos) (Q : List Value → Shared → Prop) (E : Value → Shared → Prop),
    Room n A → Vars W env sc Γ s.heap → St c W σ s →
    (∀ vs s' W', Step W W' s s' → St c W' σ' s' → RepBs W' s'.heap vs bs → Q vs s') → wpAny c.M A (spliced (backTo pos (starEach es env))) Q E s

noncomputable def plainE : Expr → Bool
  | .Starred _ _ => false
  | _ => true
theorem starEach_plain {e : Expr} {es : List Expr} {env : Env} (h : plainE e = true) : starEach (e :: es) env = (false, eval e env) :: starEach es env := by
  cases e <;> first | rfl | cases h

theorem Evs.nil : Evs c n sc Γ σ [] [] σ := .mk fun A env s W pos Q E R V S hQ => Calls.spliced_nil (hQ _ _ W (Step.refl _ _) S .nil)
theorem Evs.cons {es : List Expr} {bs : List B} (h₁ : Ev c n sc Γ σ e b σ₁) (h₂ : Evs c n sc Γ σ₁ es bs σ₂) (hp : plainE e = true) : Evs c n sc Γ σ (e :: es) (b :: bs) σ₂ := by
  refine ⟨?_⟩
  intro A env s W pos Q E R V S hQ
  rw [starEach_plain hp]
  refine Calls.spliced_cons (h₁.run A env s W _ _ R V S fun v s' W' st S' rv => ?_)
  refine h₂.run A env s' W' pos _ _ R (V.move (st.moves S.lists) st.pre) S' fun vs s'' W'' st' S'' rs => ?_
  exact hQ _ _ W'' (st.trans st') S'' (.cons (rv.move (st'.moves S'.lists) st'.pre) rs)

noncomputable def vals : List PyData → List B := List.map .val

theorem RepBs.all {W : List Addr} {h : Heap} : ∀ {vs : List Value} {ds : List PyData}, RepBs W h vs (vals ds) → RepAll W h vs ds
  | _, [], r => by cases r; exact .nil
  | _, d :: ds, r => by
    cases r with
    | cons a b => exact .cons a b.all

theorem Ev.tuple {es : List Expr} {ds : List PyData} (h : Evs c n sc Γ σ es (vals ds) σ₁) (hz : ds.length ≤ sizeLine) : Ev c n sc Γ σ (.Tuple es k pos) (.val (.tuple ds)) σ₁ := by
  refine ⟨?_⟩
  intro A env s W Q E R V S hQ
  refine Tuple_ (h.run A env s W pos _ _ R V S fun vs s' W' st S' rs => ?_)
  have ra := rs.all
  have kp : ∀ b o, s'.heap.get? b = some o → (s'.heap.push (tObj vs 0)).get? b = some o := fun b o e => Heap.get?_push_of_some _ e
  refine wpAny_newObj_type (hQ _ { s' with heap := s'.heap.push (tObj vs 0) } W' (st.trans (Step.of_keeps kp)) (S'.keeps kp) (Rep.newTuple S'.lists ra)) ?_
  show vs.toArray.size ≤ sizeLine
  rw [List.size_toArray, ra.length]; exact hz
theorem Ev.list {es : List Expr} {ds : List PyData} (h : Evs c n sc Γ σ es (vals ds) σ₁) (hz : ds.length ≤ sizeLine) : Ev c n sc Γ σ (.List es pos) (.val (.list ds)) σ₁ := by
  refine ⟨?_⟩
  intro A env s W Q E R V S hQ
  refine List_ (h.run A env s W pos _ _ R V S fun vs s' W' st S' rs => ?_)
  have ra := rs.all
  have kp : ∀ b o, s'.heap.get? b = some o → (s'.heap.push (lObj vs 0)).get? b = some o := fun b o e => Heap.get?_push_of_some _ e
  refine wpAny_newObj_type (hQ _ { s' with heap := s'.heap.push (lObj vs 0) } W' (st.trans (Step.of_keeps kp)) (S'.keeps kp) (Rep.newList S'.lists ra)) ?_
  show vs.toArray.size ≤ sizeLine
  rw [List.size_toArray, ra.length]; exact hz

theorem St.newCell {W : List Addr} {s : Shared} (S : St c W σ s) {vs : List Value} {ds : List PyData} (r : RepAll W s.heap vs ds) :
    Step W (W ++ [s.heap.objs.size]) s { s with heap := s.heap.push (lObj vs 0) } ∧ St c (W ++ [s.heap.objs.size]) (σ ++ [ds]) { s with heap := s.heap.push (lObj vs 0) } ∧
      RepB (W ++ [s.heap.objs.size]) (s.heap.push (lObj vs 0)) (.ref s.heap.objs.size) (.cell σ.length) := by
  have hnone : s.heap.get? s.heap.objs.size = none := by
    cases q : s.heap.get? s.heap.objs.size with
    | none => rfl
    | some o => exact absurd (Heap.lt_size q) (Nat.lt_irrefl _)
  have kp : ∀ b o, s.heap.get? b = some o → (s.heap.push (lObj vs 0)).get? b = some o := fun b o e => Heap.get?_push_of_some _ e
  have st : Step W (W ++ [s.heap.objs.size]) s { s with heap := s.heap.push (lObj vs 0) } := by
    refine ⟨⟨_, s.toks, rfl⟩, List.prefix_append _ _, fun b hb hn => ?_, fun b o _ e => kp b o e⟩
    rcases List.mem_append.mp hb with h | h
    · exact absurd h hn
    · rw [List.mem_singleton.mp h]; exact hnone
  have M := st.moves S.lists
  refine ⟨st, ⟨fun b o e => kp b o (S.base b o e), fun b hb => ?_, ?_, by simp [S.len], fun i es he => ?_⟩, ⟨s.heap.objs.size, by rw [← S.len]; simp, rfl⟩⟩
  · rcases List.mem_append.mp hb with h | h
    · exact S.fresh b h
    · rw [List.mem_singleton.mp h]
      cases q : c.hb.get? s.heap.objs.size with
      | none => rfl
      | some o => have := S.base _ o q; rw [hnone] at this; cases this
  · rw [List.nodup_append]
    refine ⟨S.nodup, by simp, fun a ha b hb => ?_⟩
    rw [List.mem_singleton.mp hb]
    exact Nat.ne_of_lt (S.lists.lt ha)
  · rcases Nat.lt_or_ge i σ.length with hi | hi
    · rw [List.getElem?_append_left hi] at he
      obtain ⟨a, us, m, h1, h2, h3⟩ := S.cell i es he
      exact ⟨a, us, m, by rw [List.getElem?_append_left (by rw [S.len]; exact hi)]; exact h1, kp _ _ h2, h3.move M⟩
    · have hi' : i = σ.length := by
        have := (List.getElem?_eq_some_iff.mp he).1
        simp at this; omega
      subst hi'
      simp at he; subst he
      exact ⟨s.heap.objs.size, vs, 0, by rw [← S.len]; simp, Heap.get?_push_size _ rfl, r.move M⟩

/-- a list display that is to turn -/
theorem Ev.listCell {es : List Expr} {ds : List PyData} (h : Evs c n sc Γ σ es (vals ds) σ₁) (hz : ds.length ≤ sizeLine) : Ev c n sc Γ σ (.List es pos) (.cell σ₁.length) (σ₁ ++ [ds]) := by
  refine ⟨?_⟩
  intro A env s W Q E R V S hQ
  refine List_ (h.run A env s W pos _ _ R V S fun vs s' W' st S' rs => ?_)
  have ra := rs.all
  obtain ⟨st1, S1, r1⟩ := S'.newCell ra
  refine wpAny_newObj_type (hQ _ { s' with heap := s'.heap.push (lObj vs 0) } _ (st.trans st1) S1 r1) ?_
  show vs.toArray.size ≤ sizeLine
  rw [List.size_toArray, ra.length]; exact hz
end
section
variable {M : Model} {A : Around} {E : Value → Shared → Prop} {s : Shared}
theorem evalArgs_trees {f : Value} {trees : List (Bool × Sem Value)} {Q : Args → Shared → Prop} (hp : trees.any (·.1) = false)
    (h : wpAny M A (spliced trees) (fun vs s' => Q ⟨vs, []⟩ s') E s) : wpAny M A (evalArgs f true trees []) Q E s := by
  cases trees with
  | nil =>
    unfold evalArgs
    show wpAny M A (spliced [] >>= _) Q E s
    refine wpAny_bind (wpAny_mono h (fun vs s' h' => ?_) fun _ _ x => x)
    refine wpAny_holding ?_
    exact wpAny_bind (wpAny_pure (wpAny_bind (wpAny_pure (wpAny_pure h'))))
  | cons t rest =>
    obtain ⟨b, x⟩ := t
    have hb : b = false := by
      cases b with
      | false => rfl
      | true => simp at hp
    subst hb
    exact Calls.evalArgs_plain h
end

theorem flags_plain {es : List Expr} {env : Env} {pos : Pos} (h : es.all plainE = true) : (backTo pos (starEach es env)).any (·.1) = false := by
  induction es with
  | nil => rfl
  | cons e es ih =>
    rw [List.all_cons, Bool.and_eq_true] at h
    rw [starEach_plain h.1]
    show (false || (backTo pos (starEach es env)).any (·.1)) = false
    rw [ih h.2]; rfl

section
variable {c : Cx} {n : Nat} {sc : Scope} {Γ : Gam} {σ σ₁ σ₂ : Sto} {pos np : Pos} {b : B} {x : Str} {args : List Expr} {bs : List B}

theorem CalR.cal {f : Value} {ds : List PyData} {d : PyData} (h : CalR c f ds d) : Cal c n f (vals ds) σ (.val d) σ := by
  intro A s W vs Q E R S r hQ
  exact h A s W vs _ _ R.zero S.lists r.all fun q h' tk kp rq => hQ _ _ W (Step.of_keeps kp) (S.keeps kp) rq

theorem Ev.callF {f : Addr} {o : Obj} {fd : FuncData} (hl : sc.names.lookup x = some .globalImplicit) (hv : nsIn c.K mainGlobals x = some (some (.ref f))) (hf : c.K.lookup f = some o) (hfd : o.data = .func fd)
    (hd : (x == ("__debug__" : Str)) = false) (hp : args.all plainE = true) (h₁ : Evs c n sc Γ σ args bs σ₁) (h₂ : Cal c n (.ref f) bs σ₁ b σ₂) : Ev c n sc Γ σ (.Call (.Name x np) args [] pos) b σ₂ := by
  refine ⟨?_⟩
  intro A env s W Q E R V S hQ
  have hk : env.scope.kind = .function := by rw [V.scope]; exact V.kind
  refine Call_Name rfl (Name_function_global hk (by rw [V.kindOf, hl]) (loadGlobal_global (mg := c.mg) ?_ (mg_of c.X c.g hv) ?_) hd)
  · rw [V.glob]; exact S.ns c.g
  · refine callWith_function (evalArgs_trees (flags_plain hp) (h₁.run A env s W pos _ _ R V S fun vs s' W' st S' rs => ⟨⟨S'.base _ _ (c.X _ _ hf), hfd⟩, ?_⟩))
    exact h₂ A s' W' vs _ _ R S' rs fun v s'' W'' st' S'' rv => hQ _ _ W'' (st.trans st') S'' rv

theorem Ev.callB {id : String} (hl : sc.names.lookup x = some .globalImplicit) (hv : nsIn c.K mainGlobals x = some none) (hb : bootBuiltins x = some (.builtin id)) (hn : x ≠ "__name__")
    (hd : (x == ("__debug__" : Str)) = false) (hp : args.all plainE = true) (h₁ : Evs c n sc Γ σ args bs σ₁) (h₂ : Cal c n (.builtin id) bs σ₁ b σ₂) : Ev c n sc Γ σ (.Call (.Name x np) args [] pos) b σ₂ := by
  refine ⟨?_⟩
  intro A env s W Q E R V S hQ
  have hk : env.scope.kind = .function := by rw [V.scope]; exact V.kind
  refine Call_Name rfl (Name_function_global hk (by rw [V.kindOf, hl]) (loadGlobal_builtin (mg := c.mg) (mb := c.mb) ?_ (mg_none_of c.X c.g hv) ?_ ((c.bt x hn).trans hb) ?_) hd)
  · rw [V.glob]; exact S.ns c.g
  · rw [V.blt]; exact S.ns c.b
  · refine callWith_builtin (flags_plain hp) (evalArgs_trees (flags_plain hp) (h₁.run A env s W pos _ _ R V S fun vs s' W' st S' rs => ?_))
    exact h₂ A s' W' vs _ _ R S' rs fun v s'' W'' st' S'' rv => hQ _ _ W'' (st.trans st') S'' rv

theorem Ev.callT {T : String} (hl : sc.names.lookup x = some .globalImplicit) (hv : nsIn c.K mainGlobals x = some none) (hb : bootBuiltins x = some (.type T)) (hn : x ≠ "__name__")
    (hd : (x == ("__debug__" : Str)) = false) (hp : args.all plainE = true) (h₁ : Evs c n sc Γ σ args bs σ₁) (h₂ : Cal c n (.type T) bs σ₁ b σ₂) : Ev c n sc Γ σ (.Call (.Name x np) args [] pos) b σ₂ := by
  refine ⟨?_⟩
  intro A env s W Q E R V S hQ
  have hk : env.scope.kind = .function := by rw [V.scope]; exact V.kind
  refine Call_Name rfl (Name_function_global hk (by rw [V.kindOf, hl]) (loadGlobal_builtin (mg := c.mg) (mb := c.mb) ?_ (mg_none_of c.X c.g hv) ?_ ((c.bt x hn).trans hb) ?_) hd)
  · rw [V.glob]; exact S.ns c.g
  · rw [V.blt]; exact S.ns c.b
  · refine PyProof.Rows.callWith_type (flags_plain hp) (evalArgs_trees (flags_plain hp) (h₁.run A env s W pos _ _ R V S fun vs s' W' st S' rs => ?_))
    exact h₂ A s' W' vs _ _ R S' rs fun v s'' W'' st' S'' rv => hQ _ _ W'' (st.trans st') S'' rv
end

theorem bindL_off {k : Str → Option NameKind} {x : Str} : ∀ {binds : List (Str × Value)} {m : Str → Option Value}, (∀ p ∈ binds, p.1 ≠ x) → bindL k binds m x = m x
  | [], _, _ => rfl
  | (y, v) :: r, m, h => by
    unfold bindL
    rw [bindL_off fun p hp => h p (.tail _ hp)]
    split
    · exact if_neg (fun e : x = y => h (y, v) (.head _) e.symm)
    · rfl
theorem bindC_off {k : Str → Option NameKind} {x : Str} : ∀ {binds : List (Str × Value)} {m : Str → Option Value}, (∀ p ∈ binds, p.1 ≠ x) → bindC k binds m x = m x
  | [], _, _ => rfl
  | (y, v) :: r, m, h => by
    unfold bindC
    rw [bindC_off fun p hp => h p (.tail _ hp)]
    split
    · rfl
    · exact if_neg (fun e : x = y => h (y, v) (.head _) e.symm)

theorem slot_binds {sc : Scope} {W : List Addr} {h : Heap} : ∀ {ps : List Str} {vs : List Value} {bs : List B} {m cm : Str → Option Value}, ps.Nodup → ps.length = bs.length → RepBs W h vs bs →
    (∀ p ∈ ps, sc.names.lookup p = some .local ∨ sc.names.lookup p = some .cell) →
    ∀ x b, (ps.zip bs).lookup x = some b → ∃ v, slotOf sc (bindL (fun y => sc.names.lookup y) (ps.zip vs) m) (bindC (fun y => sc.names.lookup y) (ps.zip vs) cm) x = some v ∧ RepB W h v b
  | [], _, _, _, _, _, _, _, _, x, b, hx => by cases hx
  | p :: ps, _, [], _, _, _, hl, _, _, x, b, hx => by cases hl
  | p :: ps, _, b₀ :: bs, m, cm, hnd, hl, r, hk, x, b, hx => by
    cases r with
    | @cons v vs _ _ rv rs =>
      obtain ⟨hp, hnd'⟩ := List.nodup_cons.mp hnd
      rw [List.zip_cons_cons, List.lookup_cons] at hx
      by_cases hxp : x = p
      · subst hxp
        rw [beq_self_eq_true] at hx
        cases hx
        refine ⟨v, ?_, rv⟩
        have off : ∀ q ∈ ps.zip vs, q.1 ≠ x := fun q hq e => hp (e ▸ (List.of_mem_zip hq).1)
        unfold slotOf
        rw [List.zip_cons_cons]
        unfold bindL bindC
        rw [bindL_off off, bindC_off off]
        rcases hk x (.head _) with h1 | h1
        · rw [h1]; simp
        · rw [h1]; simp
      · have : (x == p) = false := by simpa using hxp
        rw [this] at hx
        rw [List.zip_cons_cons]
        unfold bindL bindC
        exact slot_binds hnd' (by simpa using hl) rs (fun q hq => hk q (.tail _ hq)) x b hx

section
variable {c : Cx} {n : Nat} {σ σ₁ : Sto} {b : B} {bs : List B}

theorem Cal.of {f : Addr} {o : Obj} {fd : FuncData} {body : List Stmt} {ps : List Str} {as : List B} (hf : c.K.lookup f = some o) (hfd : o.data = .func fd) (hcode : codeIn c.K fd.code fd.qualname = true)
    (hbody : fd.body = .stmts body) (hclo : fd.closure = []) (hglob : fd.globals = mainGlobals) (hblt : fd.builtins = builtinsNs)
    (hbind : ∀ (s : Shared) (W : List Addr) (vs : List Value), St c W σ s → RepBs W s.heap vs as → ∃ us, BindsTo s fd ⟨vs, []⟩ (ps.zip us) ∧ RepBs W s.heap us bs)
    (hnd : ps.Nodup) (hlen : ps.length = bs.length) (hk : ∀ p ∈ ps, fd.scope.names.lookup p = some .local ∨ fd.scope.names.lookup p = some .cell)
    (hcn : ((cellsFrom 0 fd.scope.names []).map (·.1)).Nodup) (hex : Exec c n fd.scope (ps.zip bs) σ body (.ret b σ₁))
    (hco : fd.scope.isCoroutine = false) (hgen : fd.scope.isGenerator = false) (hkind : fd.scope.kind = .function) : Cal c (n + 1) (.ref f) as σ b σ₁ := by
  intro A s W vs Q E R S r hQ
  obtain ⟨us, hbt, ru⟩ := hbind s W vs S r
  refine wpAny_call ?_
  have hroom : A.depth < recursionLimit := by
    have := R.depth
    have h2 : recursionLimit = 1000 := rfl
    omega
  refine codeAny_call_function hroom (S.base _ _ (c.X _ _ hf)) hfd hco hgen hbody (codeRec_of (c.X.keeps S.base) hcode) (hbt _ _ _ _ ?_)
  rw [hclo]
  have hz : ((ps.zip us).all fun y => fd.scope.names.lookup y.1 == some .local || fd.scope.names.lookup y.1 == some .cell) = true := by
    rw [List.all_eq_true]
    intro y hy
    rcases hk y.1 (List.of_mem_zip hy).1 with h | h <;> simp [h]
  refine wpAny_newFunctionEnv_cells hkind (kindsX hz _) fun env he s' x => ?_
  subst he
  refine ⟨(c.nolimit.keeps S.base).keeps x.toInCall.keep, codeAny_func ?_⟩
  obtain ⟨h₁, tk, e, hkp⟩ := x.done
  subst e
  have M := Moves.of_keeps S.lists hkp
  have V : Vars W (newEnv fd.scope s.heap.objs.size fd.globals (cellsFrom (s.heap.objs.size + 1) fd.scope.names []) (fd.qualname ++ ".<locals>.") (some f) fd.code none fd.builtins) fd.scope (ps.zip bs) h₁ := by
    refine ⟨rfl, hkind, hglob, hblt, x.apart, fun y hy => ?_, fun a ha => ?_, ⟨_, _, x.toInCall.ns, x.cell, ?_⟩⟩
    · exact Option.isSome_iff_exists.mp (cellsFrom_some _ _ _ (.inl hy))
    · obtain ⟨q, hq, rfl⟩ := List.mem_map.mp ha
      exact ⟨q.1, lookup_of_mem_nodup (cellsFrom_names fd.scope.names 0 (s.heap.objs.size + 1) [] [] rfl ▸ hcn) hq⟩
    · intro y b' hy
      have := slot_binds (sc := fd.scope) (m := fun _ => none) (cm := fun _ => none) hnd hlen (ru.move M List.prefix_rfl) hk y b' hy
      exact this
  have Fx0 : Fx c (newEnv fd.scope s.heap.objs.size fd.globals (cellsFrom (s.heap.objs.size + 1) fd.scope.names []) (fd.qualname ++ ".<locals>.") (some f) fd.code none fd.builtins) fd.scope W s W (ps.zip bs) σ { s with heap := h₁, toks := tk } := by
    have fresh : ∀ a, s.heap.objs.size ≤ a → s.heap.get? a = none := fun a ha => by
      cases q : s.heap.get? a with
      | none => rfl
      | some o => exact absurd (Heap.lt_size q) (Nat.not_lt.mpr ha)
    refine ⟨V, S.keeps hkp, Step.of_keeps hkp, fresh _ (Nat.le_refl _), fun y a hy => fresh a ?_, S.base⟩
    have := x.above y a (mem_of_lookup hy)
    exact Nat.le_of_lt this
  have R' : Room n (A.deeper (newEnv fd.scope s.heap.objs.size fd.globals (cellsFrom (s.heap.objs.size + 1) fd.scope.names []) (fd.qualname ++ ".<locals>.") (some f) fd.code none fd.builtins)) :=
    ⟨R.handled, by have := R.depth; show A.depth + 1 + n < 900; omega, by have := R.units; show A.units + 3 + 8 * n < 9000; omega⟩
  exact hex.run _ _ s W _ W _ _ R' Fx0 fun v s' W' st S' rv => hQ v s' W' st S' rv
end
noncomputable def SeqKeep (h h' : Heap) : Prop := ∀ b vs n, (h.get? b = some (lObj vs n) → h'.get? b = some (lObj vs n)) ∧ (h.get? b = some (tObj vs n) → h'.get? b = some (tObj vs n))
mutual
theorem Rep.seqs {W : List Addr} {h h' : Heap} (k : SeqKeep h h') : ∀ {v : Value} {d : PyData}, Rep W h v d → Rep W h' v d
  | _, _, .none => .none
  | _, _, .bool b => .bool b
  | _, _, .int i t => .int i t
  | _, _, .str x t q => .str x t q
  | _, _, .list e hn r => .list ((k _ _ _).1 e) hn (RepAll.seqs k r)
  | _, _, .tuple e r => .tuple ((k _ _ _).2 e) (RepAll.seqs k r)
theorem RepAll.seqs {W : List Addr} {h h' : Heap} (k : SeqKeep h h') : ∀ {vs : List Value} {ds : List PyData}, RepAll W h vs ds → RepAll W h' vs ds
  | _, _, .nil => .nil
  | _, _, .cons r rs => .cons (Rep.seqs k r) (RepAll.seqs k rs)
end
theorem RepB.seqs {W : List Addr} {h h' : Heap} (k : SeqKeep h h') {v : Value} {b : B} (r : RepB W h v b) : RepB W h' v b := by
  cases b with
  | val d => exact Rep.seqs k r
  | cell i => exact r
  | raw u => exact r
theorem RepBs.seqs {W : List Addr} {h h' : Heap} (k : SeqKeep h h') {vs : List Value} {bs : List B} (r : RepBs W h vs bs) : RepBs W h' vs bs := by
  induction r with
  | nil => exact .nil
  | cons a _ ih => exact .cons (a.seqs k) ih

theorem SeqKeep.of_ns {h h' : Heap} {L : Addr} {m : Str → Option Value} (n : h.Ns L m) (s : Heap.SameBut L h h') : SeqKeep h h' := by
  obtain ⟨o, es, ep, e, d, _⟩ := n
  refine fun b vs k => ⟨fun q => ?_, fun q => ?_⟩
  all_goals
    refine (s.2 b fun hb => ?_).trans q
    subst hb
    rw [e] at q; cases q; cases d
theorem SeqKeep.of_cell {h h' : Heap} {L : Addr} {v : Option Value} (n : h.IsCell L v) (s : Heap.SameBut L h h') : SeqKeep h h' := by
  obtain ⟨o, e, d⟩ := n
  refine fun b vs k => ⟨fun q => ?_, fun q => ?_⟩
  all_goals
    refine (s.2 b fun hb => ?_).trans q
    subst hb
    rw [e] at q; cases q; cases d

/-- all but dicts and cells stands -/
noncomputable def NKeep (h h' : Heap) : Prop := ∀ b o, (∀ es n, o.data ≠ .dict es n) → (∀ v, o.data ≠ .cell v) → h.get? b = some o → h'.get? b = some o
theorem NKeep.seq {h h' : Heap} (k : NKeep h h') : SeqKeep h h' := fun b vs n => ⟨k b _ (fun _ _ e => nomatch e) (fun _ e => nomatch e), k b _ (fun _ _ e => nomatch e) (fun _ e => nomatch e)⟩
theorem NKeep.of_ns {h h' : Heap} {L : Addr} {m : Str → Option Value} (n : h.Ns L m) (s : Heap.SameBut L h h') : NKeep h h' := by
  obtain ⟨o, es, ep, e, d, _⟩ := n
  refine fun b o' h1 h2 q => (s.2 b fun hb => ?_).trans q
  subst hb
  rw [e] at q; cases q; exact h1 _ _ d
theorem NKeep.of_cell {h h' : Heap} {L : Addr} {v : Option Value} (n : h.IsCell L v) (s : Heap.SameBut L h h') : NKeep h h' := by
  obtain ⟨o, e, d⟩ := n
  refine fun b o' h1 h2 q => (s.2 b fun hb => ?_).trans q
  subst hb
  rw [e] at q; cases q; exact h2 _ d

section
variable {c : Cx} {n : Nat} {sc : Scope} {Γ : Gam} {σ σ₁ σ₂ : Sto} {env : Env} {W₀ W W' : List Addr} {s₀ s s' : Shared} {b : B} {v : Value} {x : Str}

theorem Fx.move (F : Fx c env sc W₀ s₀ W Γ σ s) (st : Step W W' s s') (S' : St c W' σ₁ s') : Fx c env sc W₀ s₀ W' Γ σ₁ s' :=
  { vars := F.vars.move (st.moves F.st.lists) st.pre, st := S', step := F.step.trans st, own := F.own, ownC := F.ownC, base0 := F.base0 }
theorem Fx.keeps (F : Fx c env sc W₀ s₀ W Γ σ s) {h' : Heap} {tk : Nat} (k : ∀ b o, s.heap.get? b = some o → h'.get? b = some o) : Fx c env sc W₀ s₀ W Γ σ { s with heap := h', toks := tk } :=
  F.move (Step.of_keeps k) (F.st.keeps k)
theorem Fx.weaken {Γ' : Gam} (F : Fx c env sc W₀ s₀ W Γ σ s) (h : ∀ x b, Γ'.lookup x = some b → Γ.lookup x = some b) : Fx c env sc W₀ s₀ W Γ' σ s := by
  obtain ⟨m, cm, hn, hc, hg⟩ := F.vars.frame
  exact { F with vars := { F.vars with frame := ⟨m, cm, hn, hc, fun x b e => hg x b (h x b e)⟩ } }

theorem St.seqs {h' : Heap} {tk : Nat} (S : St c W σ s) (k : SeqKeep s.heap h') (base : ∀ b o, c.hb.get? b = some o → h'.get? b = some o) : St c W σ { s with heap := h', toks := tk } :=
  ⟨base, S.fresh, S.nodup, S.len, fun i ds e => by
    obtain ⟨a, vs, m, h1, h2, h3⟩ := S.cell i ds e
    exact ⟨a, vs, m, h1, (k _ _ _).1 h2, h3.seqs k⟩⟩

theorem Fx.storeL (F : Fx c env sc W₀ s₀ W Γ σ s) (hl : sc.names.lookup x = some .local ∨ sc.names.lookup x = some .cell) (rv : RepB W s.heap v b) {A : Around} {Q : Unit → Shared → Prop} {E : Value → Shared → Prop}
    (h : ∀ h' tk L, (L = env.locals ∨ ∃ x, env.cells.lookup x = some L) → Heap.SameBut L s.heap h' → NKeep s.heap h' → Fx c env sc W₀ s₀ W ((x, b) :: Γ) σ { s with heap := h', toks := tk } → Q () { s with heap := h', toks := tk }) : wpAny c.M A (storeName env x v) Q E s := by
  obtain ⟨m, cm, hn, hc, hg⟩ := F.vars.frame
  have hk : env.scope.kind = .function := by rw [F.vars.scope]; exact F.vars.kind
  obtain ⟨hh, tk0, hs0⟩ := F.step.same
  have addr : ∀ a, s₀.heap.get? a = none → ∀ h', Heap.SameBut a s.heap h' → ∀ b o, s₀.heap.get? b = some o → s.heap.get? b = some o → h'.get? b = some o := by
    intro a ha h' hs b o e q
    exact (hs.2 b fun hb => by rw [hb, ha] at e; cases e).trans q
  rcases hl with hl | hl
  · refine wpAny_storeName_local (by rw [F.vars.kindOf, hl]) hn (fun h' hn' hs' => ?_) (by rw [hk]; rfl)
    have k := SeqKeep.of_ns hn hs'
    refine h h' _ _ (.inl rfl) hs' (NKeep.of_ns hn hs') ⟨⟨F.vars.scope, F.vars.kind, F.vars.glob, F.vars.blt, F.vars.apart, F.vars.has, F.vars.dist, ⟨_, cm, hn', fun y a e => ?_, fun y b' e => ?_⟩⟩, ?_, ?_, F.own, F.ownC, F.base0⟩
    · refine (hc y a e).sameBut hs' fun ha => ?_
      obtain ⟨o, q1, q2⟩ := hc y a e
      obtain ⟨o', es, ep, q3, q4, _⟩ := hn
      rw [ha, q3] at q1; cases q1; rw [q4] at q2; cases q2
    · rw [List.lookup_cons] at e
      by_cases hy : y = x
      · subst hy
        rw [beq_self_eq_true] at e; cases e
        refine ⟨v, ?_, rv.seqs k⟩
        unfold slotOf; rw [hl]; simp
      · have : (y == x) = false := by simpa using hy
        rw [this] at e
        obtain ⟨u, h1, h2⟩ := hg y b' e
        refine ⟨u, ?_, h2.seqs k⟩
        unfold slotOf at h1 ⊢
        revert h1
        cases sc.names.lookup y with
        | none => exact id
        | some kd => cases kd <;> first | exact id | (intro h1; simp [hy]; exact h1)
    · exact F.st.seqs k fun b o e => addr _ F.own h' hs' b o (F.base0 b o e) (F.st.base b o e)
    · exact ⟨by subst hs0; exact ⟨h', _, rfl⟩, F.step.pre, F.step.fresh, fun b o hb e => addr _ F.own h' hs' b o e (F.step.keep b o hb e)⟩
  · obtain ⟨a, ha⟩ := F.vars.has x hl
    refine wpAny_storeName_cell hk (by rw [F.vars.kindOf, hl]) ha (hc x a ha) fun h' hc' hs' => ?_
    have k := SeqKeep.of_cell (hc x a ha) hs'
    have hLa : env.locals ≠ a := fun hLa => by
      obtain ⟨o, q1, q2⟩ := hc x a ha
      obtain ⟨o', es, ep, q3, q4, _⟩ := hn
      rw [← hLa, q3] at q1; cases q1; rw [q4] at q2; cases q2
    refine h h' s.toks a (.inr ⟨x, ha⟩) hs' (NKeep.of_cell (hc x a ha) hs') ⟨⟨F.vars.scope, F.vars.kind, F.vars.glob, F.vars.blt, F.vars.apart, F.vars.has, F.vars.dist, ⟨m, fun y => if y = x then some v else cm y, hn.sameBut hs' hLa, fun y a' e => ?_, fun y b' e => ?_⟩⟩, ?_, ?_, F.own, F.ownC, F.base0⟩
    · show h'.IsCell a' (if y = x then some v else cm y)
      by_cases hy : y = x
      · subst hy
        rw [ha] at e; cases e
        simpa using hc'
      · rw [if_neg hy]
        exact (hc y a' e).sameBut hs' fun q => hy (name_of_addr F.vars.apart (mem_of_lookup e) (q ▸ mem_of_lookup ha))
    · rw [List.lookup_cons] at e
      by_cases hy : y = x
      · subst hy
        rw [beq_self_eq_true] at e; cases e
        refine ⟨v, ?_, rv.seqs k⟩
        unfold slotOf; rw [hl]; simp
      · have : (y == x) = false := by simpa using hy
        rw [this] at e
        obtain ⟨u, h1, h2⟩ := hg y b' e
        refine ⟨u, ?_, h2.seqs k⟩
        unfold slotOf at h1 ⊢
        revert h1
        cases sc.names.lookup y with
        | none => exact id
        | some kd => cases kd <;> first | exact id | (intro h1; simp [hy]; exact h1)
    · exact F.st.seqs (tk := s.toks) k fun b o e => addr _ (F.ownC x a ha) h' hs' b o (F.base0 b o e) (F.st.base b o e)
    · exact ⟨by subst hs0; exact ⟨h', _, rfl⟩, F.step.pre, F.step.fresh, fun b o hb e => addr _ (F.ownC x a ha) h' hs' b o e (F.step.keep b o hb e)⟩

theorem Fx.store (F : Fx c env sc W₀ s₀ W Γ σ s) (hl : sc.names.lookup x = some .local ∨ sc.names.lookup x = some .cell) (rv : RepB W s.heap v b) {A : Around} {Q : Unit → Shared → Prop} {E : Value → Shared → Prop}
    (h : ∀ h' tk, NKeep s.heap h' → Fx c env sc W₀ s₀ W ((x, b) :: Γ) σ { s with heap := h', toks := tk } → Q () { s with heap := h', toks := tk }) : wpAny c.M A (storeName env x v) Q E s :=
  F.storeL hl rv fun h' tk _ _ _ k F' => h h' tk k F'

/-- a dict that is not the frame's changes -/
theorem Fx.apart (F : Fx c env sc W₀ s₀ W Γ σ s) {C : Addr} {m : Str → Option Value} (hC : s.heap.Ns C m) (h0 : s₀.heap.get? C = none) (hne : C ≠ env.locals) {h' : Heap} {tk : Nat} (k : Heap.SameBut C s.heap h') :
    Fx c env sc W₀ s₀ W Γ σ { s with heap := h', toks := tk } := by
  have sk := SeqKeep.of_ns hC k
  obtain ⟨m', cm, hn, hc, hg⟩ := F.vars.frame
  obtain ⟨hh, tk0, hs0⟩ := F.step.same
  have up : ∀ b o, s₀.heap.get? b = some o → s.heap.get? b = some o → h'.get? b = some o := fun b o q q' => (k.2 b fun hb => by rw [hb, h0] at q; cases q).trans q'
  refine ⟨⟨F.vars.scope, F.vars.kind, F.vars.glob, F.vars.blt, F.vars.apart, F.vars.has, F.vars.dist, ⟨m', cm, hn.sameBut k (Ne.symm hne), fun y a q => ?_, fun y b' q => ?_⟩⟩, F.st.seqs sk fun b o q => up b o (F.base0 b o q) (F.st.base b o q), ⟨⟨h', tk, by rw [hs0]⟩, F.step.pre, F.step.fresh, fun b o hb q => up b o q (F.step.keep b o hb q)⟩, F.own, F.ownC, F.base0⟩
  · refine (hc y a q).sameBut k fun hb => ?_
    obtain ⟨o', g1, g2⟩ := hc y a q
    obtain ⟨o'', es, ep, g3, g4, _⟩ := hC
    rw [hb, g3] at g1; cases g1; rw [g4] at g2; cases g2
  · obtain ⟨u, h1, h2⟩ := hg y b' q
    exact ⟨u, h1, h2.seqs sk⟩
end
section
variable {c : Cx} {n : Nat} {sc : Scope} {Γ Γ' : Gam} {σ σ₁ σ₂ : Sto} {env : Env} {W₀ W W' : List Addr} {s₀ s s' : Shared} {b : B} {v : Value} {x : Str} {e l r : Expr} {pos p p1 p2 : Pos} {k : Nat} {ss rest body orelse : List Stmt} {R : Res}

/-- an expression in a frame at work -/
theorem Ev.inFrame (h : Ev c n sc Γ σ e b σ₁) (F : Fx c env sc W₀ s₀ W Γ σ s) {A : Around} (Rm : Room n A) {Q : Value → Shared → Prop} {E : Value → Shared → Prop}
    (hQ : ∀ v s' W', Step W W' s s' → Fx c env sc W₀ s₀ W' Γ σ₁ s' → RepB W' s'.heap v b → Q v s') : wpAny c.M A (eval e env) Q E s :=
  h.run A env s W Q E Rm F.vars F.st fun v s' W' st S' rv => hQ v s' W' st (F.move st S') rv

structure After (c : Cx) (n : Nat) (sc : Scope) (st : Stmt) (Γ : Gam) (σ : Sto) (Γ' : Gam) (σ' : Sto) : Prop where
  run : ∀ (A : Around) (env : Env) (s₀ : Shared) (W₀ : List Addr) (s : Shared) (W : List Addr) (Q : Flow → Shared → Prop) (E : Value → Shared → Prop),
    Room n A → Fx c env sc W₀ s₀ W Γ σ s → (∀ s' W', Fx c env sc W₀ s₀ W' Γ' σ' s' → Q .next s') → wpAny c.M A (exec st env) Q E s

theorem Exec.nil : Exec c n sc Γ σ [] (.next Γ σ) := .mk fun A env s₀ W₀ s W Q E _ F hQ => wpAny_execs_nil (hQ s W F)
theorem Exec.step {st : Stmt} (h₁ : After c n sc st Γ σ Γ' σ₁) (h₂ : Exec c n sc Γ' σ₁ rest R) : Exec c n sc Γ σ (st :: rest) R := by
  refine ⟨?_⟩
  intro A env s₀ W₀ s W Q E Rm F hQ
  exact wpAny_execs_cons (h₁.run A env s₀ W₀ s W _ _ Rm F fun s' W' F' => h₂.run A env s₀ W₀ s' W' Q E Rm F' hQ)
theorem Exec.weaken (h : ∀ x b, Γ'.lookup x = some b → Γ.lookup x = some b) (h₂ : Exec c n sc Γ' σ ss R) : Exec c n sc Γ σ ss R :=
  .mk fun A env s₀ W₀ s W Q E Rm F hQ => h₂.run A env s₀ W₀ s W Q E Rm (F.weaken h) hQ
theorem Exec.ret (h : Ev c n sc Γ σ e b σ₁) : Exec c n sc Γ σ (.Return (some e) pos :: rest) (.ret b σ₁) := by
  refine ⟨?_⟩
  intro A env s₀ W₀ s W Q E Rm F hQ
  exact wpAny_execs_cons (wpAny_Return_some (h.inFrame F Rm fun v s' W' st F' rv => hQ v s' W' F'.step F'.st rv))

/-- a branch that leaves, or one that goes on with what stands behind -/
theorem Exec.append {R : Res} (h : Exec c n sc Γ σ ss (.next Γ' σ₁)) (h₂ : Exec c n sc Γ' σ₁ rest R) {A : Around} {Q : Flow → Shared → Prop} {E : Value → Shared → Prop} (Rm : Room n A) (F : Fx c env sc W₀ s₀ W Γ σ s)
    (hQ : Ends c env sc W₀ s₀ Q R) :
    wpAny c.M A (execs ss env) (fun f s' => match f with | .next => wpAny c.M A (execs rest env) Q E s' | f => Q f s') E s :=
  h.run A env s₀ W₀ s W _ E Rm F fun s' W' F' => h₂.run A env s₀ W₀ s' W' Q E Rm F' hQ

theorem Exec.if_next {t : Expr} {q : Bool} (ht : Tst c n sc Γ σ t q σ₁) (h : Exec c n sc Γ σ₁ (if q then body else orelse) (.next Γ' σ₂)) (h₂ : Exec c n sc Γ' σ₂ rest R) :
    Exec c n sc Γ σ (.If t body orelse pos :: rest) R := by
  refine ⟨?_⟩
  intro A env s₀ W₀ s W Q E Rm F hQ
  refine wpAny_execs_cons (wpAny_If (ht.run A env s W _ _ Rm F.vars F.st fun s' W' st S' => ?_))
  have key := h.append h₂ Rm (F.move st S') hQ (E := E)
  cases q with
  | true => exact key
  | false => exact key
theorem Exec.if_ret {t : Expr} {q : Bool} (ht : Tst c n sc Γ σ t q σ₁) (h : Exec c n sc Γ σ₁ (if q then body else orelse) (.ret b σ₂)) :
    Exec c n sc Γ σ (.If t body orelse pos :: rest) (.ret b σ₂) := by
  refine ⟨?_⟩
  intro A env s₀ W₀ s W Q E Rm F hQ
  refine wpAny_execs_cons (wpAny_If (ht.run A env s W _ _ Rm F.vars F.st fun s' W' st S' => ?_))
  have key : wpAny c.M A (execs (if q then body else orelse) env) (fun f s' => match f with | .next => wpAny c.M A (execs rest env) Q E s' | f => Q f s') E s' :=
    h.run A env s₀ W₀ s' W' _ E Rm (F.move st S') fun v s'' W'' st' S'' rv => hQ v s'' W'' st' S'' rv
  cases q with
  | true => exact key
  | false => exact key

noncomputable def storable (sc : Scope) (x : Str) : Bool := sc.names.lookup x == some .local || sc.names.lookup x == some .cell
theorem storable_or (h : storable sc x = true) : sc.names.lookup x = some .local ∨ sc.names.lookup x = some .cell := by
  simpa [storable] using h

theorem After.asg (h : Ev c n sc Γ σ e b σ₁) (hx : storable sc x = true) (hs : ∀ env : Env, env.scope = sc → swapsWith e (some (.Name x p)) pos.line env = pure false) :
    After c n sc (.Assign [.Name x p] e pos) Γ σ ((x, b) :: Γ) σ₁ := by
  refine ⟨?_⟩
  intro A env s₀ W₀ s W Q E Rm F hQ
  refine wpAny_Assign_Name (h.inFrame F Rm fun v s' W' st F' rv => ?_) (hs env F.vars.scope)
  exact F'.store (storable_or hx) rv fun h' tk _ F'' => hQ _ W' F''

/-- stores from left to right -/
theorem storeAll {Q : Unit → Shared → Prop} {E : Value → Shared → Prop} {A : Around} : ∀ {xs : List Str} {ts : List (Value → Sem Unit)} {vs : List Value} {bs : List B} {Γ : Gam} {s : Shared},
    (∀ (i : Nat) (t : Value → Sem Unit) (x : Str), ts[i]? = some t → xs[i]? = some x → ∀ v (Q : Unit → Shared → Prop) s, wpAny c.M A (storeName env x v) Q E s → wpAny c.M A (t v) Q E s) →
    ts.length = xs.length → xs.all (storable sc) = true → xs.length = bs.length → RepBs W s.heap vs bs → Fx c env sc W₀ s₀ W Γ σ s →
    (∀ s', Fx c env sc W₀ s₀ W ((xs.zip bs).reverse ++ Γ) σ s' → Q () s') → wpAny c.M A (assignInOrder ts vs) Q E s
  | [], [], vs, bs, Γ, s, _, _, _, hl, r, F, hQ => by
    have hb : bs = [] := List.length_eq_zero_iff.mp hl.symm
    subst hb
    unfold assignInOrder
    exact wpAny_pure (hQ s F)
  | [], t :: ts, vs, bs, Γ, s, _, ht, _, _, _, _, _ => by cases ht
  | x :: xs, [], vs, bs, Γ, s, _, ht, _, _, _, _, _ => by cases ht
  | x :: xs, t :: ts, vs, [], Γ, s, _, _, _, hl, _, _, _ => by cases hl
  | x :: xs, t :: ts, vs, b :: bs, Γ, s, hts, ht, hk, hl, r, F, hQ => by
    cases r with
    | cons rv rs =>
      rename_i v vs
      rw [List.all_cons, Bool.and_eq_true] at hk
      unfold assignInOrder
      refine wpAny_bind (wpAny_holding (hts 0 t x rfl rfl v _ s (F.store (storable_or hk.1) rv fun h' tk kp F' => ?_)))
      refine storeAll (fun i t' x' h1 h2 => hts (i + 1) t' x' h1 h2) (by simpa using ht) hk.2 (by simpa using hl) (rs.seqs kp.seq) F' fun s' F'' => hQ s' ?_
      have e : ((x :: xs).zip (b :: bs)).reverse ++ Γ = (xs.zip bs).reverse ++ (x, b) :: Γ := by simp
      rw [e]; exact F''

noncomputable def nameOf (e : Expr) : Option Str := match e with
  | .Name x _ => some x
  | _ => none

theorem lookup_rev_zip {α : Type} : ∀ {xs : List Str} {bs : List α} {Γ : List (Str × α)} {y : Str}, xs.Nodup → ((xs.zip bs).reverse ++ Γ).lookup y = (xs.zip bs ++ Γ).lookup y
  | [], _, _, _, _ => by simp
  | x :: xs, [], _, _, _ => by simp
  | x :: xs, b :: bs, Γ, y, h => by
    obtain ⟨h1, h2⟩ := List.nodup_cons.mp h
    have e : ((x :: xs).zip (b :: bs)).reverse ++ Γ = (xs.zip bs).reverse ++ (x, b) :: Γ := by simp
    rw [e, lookup_rev_zip h2, List.zip_cons_cons, List.cons_append, List.lookup_cons]
    by_cases hy : y = x
    · subst hy
      rw [beq_self_eq_true]
      rw [List.lookup_append]
      have hn : (xs.zip bs).lookup y = none := by
        rw [List.lookup_eq_none_iff]
        intro q hq
        have := (List.of_mem_zip hq).1
        have hne : y ≠ q.1 := fun e => h1 (e ▸ this)
        simpa using hne
      rw [hn]; simp
    · have hb : (y == x) = false := by simpa using hy
      rw [hb, List.lookup_append, List.lookup_append, List.lookup_cons, hb]

theorem zip_reverse_reverse {α β : Type} : ∀ {xs : List α} {bs : List β}, xs.length = bs.length → xs.reverse.zip bs.reverse = (xs.zip bs).reverse
  | [], [], _ => rfl
  | x :: xs, b :: bs, h => by
    have h' : xs.length = bs.length := by simpa using h
    rw [List.zip_cons_cons, List.reverse_cons, List.reverse_cons, List.reverse_cons, ← zip_reverse_reverse h', List.zip_append (by simp [h'])]
    rfl

theorem RepBs.append {h : Heap} {vs us : List Value} {as bs : List B} (r : RepBs W h vs as) (q : RepBs W h us bs) : RepBs W h (vs ++ us) (as ++ bs) := by
  induction r with
  | nil => exact q
  | cons a _ ih => exact .cons a ih
theorem RepBs.reverse {h : Heap} {vs : List Value} {bs : List B} (r : RepBs W h vs bs) : RepBs W h vs.reverse bs.reverse := by
  induction r with
  | nil => exact .nil
  | cons a _ ih => rw [List.reverse_cons, List.reverse_cons]; exact ih.append (.cons a .nil)
theorem RepBs.length {h : Heap} {vs : List Value} {bs : List B} (r : RepBs W h vs bs) : vs.length = bs.length := by
  induction r with
  | nil => rfl
  | cons a _ ih => simp [ih]

/-- the value to unpack: a tuple object over these -/
structure EvT (c : Cx) (n : Nat) (sc : Scope) (Γ : Gam) (σ : Sto) (e : Expr) (bs : List B) (σ' : Sto) : Prop where
  run : ∀ (A : Around) (env : Env) (s : Shared) (W : List Addr) (Q : Value → Shared → Prop) (E : Value → Shared → Prop),
    Room n A → Vars W env sc Γ s.heap → St c W σ s →
    (∀ t items s' W', Step W W' s s' → St c W' σ' s' → s'.heap.IsTuple t items → RepBs W' s'.heap items.toList bs → Q (.ref t) s') → wpAny c.M A (eval e env) Q E s

theorem RepAll.bs {h : Heap} : ∀ {vs : List Value} {ds : List PyData}, RepAll W h vs ds → RepBs W h vs (vals ds)
  | _, _, .nil => .nil
  | _, _, .cons a b => .cons a (RepAll.bs b)

theorem EvT.val {ds : List PyData} (h : Ev c n sc Γ σ e (.val (.tuple ds)) σ₁) : EvT c n sc Γ σ e (vals ds) σ₁ := by
  refine ⟨?_⟩
  intro A env s W Q E Rm V S hQ
  refine h.run A env s W Q E Rm V S fun v s' W' st S' rv => ?_
  cases rv with
  | @tuple a vs m _ e1 r1 => exact hQ a vs.toArray s' W' st S' ⟨_, e1, rfl, _, rfl⟩ r1.bs
theorem EvT.disp {es : List Expr} {bs : List B} (h : Evs c n sc Γ σ es bs σ₁) (hz : bs.length ≤ sizeLine) : EvT c n sc Γ σ (.Tuple es k pos) bs σ₁ := by
  refine ⟨?_⟩
  intro A env s W Q E Rm V S hQ
  refine Tuple_ (h.run A env s W pos _ _ Rm V S fun vs s' W' st S' rs => ?_)
  have kp : ∀ b o, s'.heap.get? b = some o → (s'.heap.push (tObj vs 0)).get? b = some o := fun b o e => Heap.get?_push_of_some _ e
  refine wpAny_newObj_type (hQ _ vs.toArray { s' with heap := s'.heap.push (tObj vs 0) } W' (st.trans (Step.of_keeps kp)) (S'.keeps kp) ⟨_, Heap.get?_push_size _ rfl, rfl, _, rfl⟩ (rs.move (Moves.of_keeps S'.lists kp) List.prefix_rfl)) ?_
  show vs.toArray.size ≤ sizeLine
  rw [List.size_toArray, rs.length]; exact hz

theorem nameOf_inv {e : Expr} {y : Str} (h : nameOf e = some y) : ∃ q, e = .Name y q := by
  cases e <;> first
    | (cases h; done)
    | (cases h; exact ⟨_, rfl⟩)
theorem After.unpack {elts : List Expr} {xs : List Str} {bs : List B} {sw : Bool} (h : EvT c n sc Γ σ e bs σ₁) (hn : elts.map nameOf = xs.map some) (hl : xs.length = bs.length) (hk : xs.all (storable sc) = true) (hnd : xs.Nodup)
    (hs : ∀ env : Env, env.scope = sc → swapsWithSole [.Tuple elts k p1] e pos.line env = pure false)
    (hw : ∀ env : Env, env.scope = sc → swappedStores [.Tuple elts k p1] e env = pure (if sw then some xs else none)) :
    After c n sc (.Assign [.Tuple elts k p1] e pos) Γ σ (xs.zip bs ++ Γ) σ₁ := by
  refine ⟨?_⟩
  intro A env s₀ W₀ s W Q E Rm F hQ
  have fin : ∀ s' W', Fx c env sc W₀ s₀ W' ((xs.zip bs).reverse ++ Γ) σ₁ s' → Q .next s' := fun s' W' F' => hQ s' W' (F'.weaken fun x b e => by rw [lookup_rev_zip hnd]; exact e)
  have fin2 : ∀ s' W', Fx c env sc W₀ s₀ W' (xs.zip bs ++ Γ) σ₁ s' → Q .next s' := hQ
  cases sw with
  | true =>
    refine Assign_Tuple_swapped (names := xs) ?_ (hs env F.vars.scope) (hw env F.vars.scope)
    refine h.run A env s W _ _ Rm F.vars F.st fun t items s' W' st S' ht rs => ?_
    have hsz : items.size = xs.length := by rw [hl, ← rs.length, Array.length_toList]
    rw [← hsz]
    refine wpAny_unpackItems_tuple Rm.handled ht fun h' hx => ?_
    have kp : ∀ b o, s'.heap.get? b = some o → h'.get? b = some o := fun b o e => hx b o (Nat.ne_of_lt (Heap.lt_size e)) e
    have F' := (F.move st S').keeps (tk := s'.toks) kp
    have rs' := (rs.move (Moves.of_keeps S'.lists kp) List.prefix_rfl).reverse
    refine storeAll (xs := xs.reverse) (bs := bs.reverse) (fun i t' x' h1 h2 v Q s hq => ?_) (by simp) (by simpa [List.all_reverse] using hk) (by simp [hl]) rs' F' fun s'' F'' => ?_
    · rw [List.getElem?_map, h2] at h1
      cases h1
      exact wpAny_bindName hq
    · refine fin2 s'' W' ?_
      rw [zip_reverse_reverse hl, List.reverse_reverse] at F''
      exact F''
  | false =>
    refine Assign_Tuple ?_ (hs env F.vars.scope) (hw env F.vars.scope)
    refine h.run A env s W _ _ Rm F.vars F.st fun t items s' W' st S' ht rs => ?_
    have hsz : items.size = xs.length := by rw [hl, ← rs.length, Array.length_toList]
    have hlen : ∀ (es : List Expr) (ys : List Str), es.map nameOf = ys.map some → (assignEach es env).length = ys.length ∧ (assignEach es env).findIdx? (·.1) = none ∧
        ∀ (i : Nat) (t : Value → Sem Unit) (x : Str), ((assignEach es env).map (·.2))[i]? = some t → ys[i]? = some x → ∀ v (Q : Unit → Shared → Prop) s, wpAny c.M A (storeName env x v) Q E s → wpAny c.M A (t v) Q E s := by
      intro es
      induction es with
      | nil => intro ys h; cases ys with
        | nil => exact ⟨rfl, rfl, fun i t x h1 h2 => by cases h2⟩
        | cons y ys => cases h
      | cons e es ih =>
        intro ys h
        cases ys with
        | nil => cases h
        | cons y ys =>
          rw [List.map_cons, List.map_cons, List.cons.injEq] at h
          obtain ⟨g1, g2, g3⟩ := ih ys h.2
          obtain ⟨q, rfl⟩ := nameOf_inv h.1
          refine ⟨by show (assignEach es env).length + 1 = _; rw [g1]; rfl, by show (List.findIdx? _ ((false, PySem.assign (PySem.Expr.Name y q) env) :: assignEach es env)) = none; rw [List.findIdx?_cons, g2]; rfl, fun i t x h1 h2 => ?_⟩
          cases i with
          | zero =>
            cases h1; cases h2
            exact fun v Q s hq => wpAny_assign_Name hq
          | succ i => exact g3 i t x h1 h2
    obtain ⟨g1, g2, g3⟩ := hlen elts xs hn
    refine wpAny_assign_Tuple Rm.handled ht (by rw [g1, hsz]) g2 fun h' hx => ?_
    have kp : ∀ b o, s'.heap.get? b = some o → h'.get? b = some o := fun b o e => hx b o (Nat.ne_of_lt (Heap.lt_size e)) e
    have F' := (F.move st S').keeps (tk := s'.toks) kp
    exact storeAll g3 (by rw [List.length_map, g1]) hk hl (rs.move (Moves.of_keeps S'.lists kp) List.prefix_rfl) F' fun s'' F'' => fin s'' W' F''
end
section
variable {c : Cx} {n : Nat} {sc : Scope} {Γ Γ' : Gam} {σ σ₁ σ₂ : Sto} {env : Env} {W₀ W W' : List Addr} {s₀ s s' : Shared} {b : B} {v : Value} {x : Str} {e l r : Expr} {pos apos p p1 p2 : Pos} {k : Nat} {ss rest body orelse : List Stmt} {R : Res} {i : Nat} {ds es : List PyData} {d : PyData}

/-- a list that turns is changed in place -/
theorem St.setCell (S : St c W σ s) {a : Addr} {vs vs' : List Value} {m m' : Nat} {h' : Heap} {tk : Nat} (hi : W[i]? = some a) (ha : s.heap.get? a = some (lObj vs m)) (hs : Heap.SameBut a s.heap h') (ha' : h'.get? a = some (lObj vs' m'))
    (hr : RepAll W s.heap vs' ds) (hσ : i < σ.length) : Step W W s { s with heap := h', toks := tk } ∧ St c W (σ.set i ds) { s with heap := h', toks := tk } := by
  have hmem : a ∈ W := List.mem_of_getElem? hi
  have kp : ∀ b o, b ∉ W → s.heap.get? b = some o → h'.get? b = some o := fun b o hb e => (hs.2 b fun q => hb (q ▸ hmem)).trans e
  have M : Moves W W s.heap h' := { lists := S.lists, fresh := fun _ h1 h2 => absurd h1 h2, keep := kp }
  refine ⟨{ same := ⟨h', tk, rfl⟩, pre := List.prefix_rfl, fresh := fun _ h1 h2 => absurd h1 h2, keep := kp }, ⟨fun b o e => ?_, S.fresh, S.nodup, by simp [S.len], fun j es he => ?_⟩⟩
  · refine kp b o (fun hb => ?_) (S.base b o e)
    rw [S.fresh b hb] at e; cases e
  · by_cases hj : j = i
    · subst hj
      rw [List.getElem?_set_self hσ] at he
      cases he
      exact ⟨a, vs', m', hi, ha', hr.move M⟩
    · rw [List.getElem?_set_ne (Ne.symm hj)] at he
      obtain ⟨a', us, q, h1, h2, h3⟩ := S.cell j es he
      refine ⟨a', us, q, h1, (hs.2 a' fun e => hj ?_).trans h2, h3.move M⟩
      subst e
      have g1 := (List.getElem?_eq_some_iff.mp h1)
      have g2 := (List.getElem?_eq_some_iff.mp hi)
      have nd := List.pairwise_iff_getElem.mp S.nodup
      rcases Nat.lt_trichotomy j i with hlt | heq | hgt
      · exact absurd (g1.2.trans g2.2.symm) (nd j i g1.1 g2.1 hlt)
      · exact heq
      · exact absurd (g2.2.trans g1.2.symm) (nd i j g2.1 g1.1 hgt)

theorem RepAll.last {h : Heap} {vs : List Value} {d : PyData} (r : RepAll W h vs (ds ++ [d])) : ∃ us v, vs = us ++ [v] ∧ RepAll W h us ds ∧ Rep W h v d := by
  induction vs generalizing ds with
  | nil => cases ds <;> cases r
  | cons u vs ih =>
    cases ds with
    | nil =>
      cases r with
      | cons a q => cases q; exact ⟨[], u, rfl, .nil, a⟩
    | cons e ds =>
      cases r with
      | cons a q =>
        obtain ⟨us, v, rfl, h1, h2⟩ := ih q
        exact ⟨u :: us, v, rfl, .cons a h1, h2⟩

theorem Ev.append (hx : Γ.lookup x = some (.cell i)) (hd : (x == ("__debug__" : Str)) = false) (h : Ev c n sc Γ σ e (.val d) σ₁) (hp : plainE e = true) (hds : σ₁[i]? = some ds) (hz : ds.length ≤ 1000000) (hl : (apos.endLine == pos.line) = true) :
    Ev c n sc Γ σ (.Call (.Attribute (.Name x p) (Str.ofString "append") apos) [e] [] pos) (.val .none) (σ₁.set i (ds ++ [d])) := by
  refine ⟨?_⟩
  intro A env s W Q E Rm V S hQ
  have ht : backTo pos (starEach [e] env) = [(false, eval e env)] := by rw [starEach_plain hp]; rfl
  refine wpAny_Call_method (T := "list") (id := "list.append") rfl (by rw [ht]; rfl) hl F.plainAttrs_list F.slot_list_append (by kernel_rfl) ?_
  refine (Ev.name hx hd).run A env s W _ _ Rm V S fun v s' W' st S' rv => ?_
  obtain ⟨a, ha, rfl⟩ := rv
  obtain ⟨ds0, hds0⟩ : ∃ ds0, σ[i]? = some ds0 := by
    have h1 := (List.getElem?_eq_some_iff.mp ha).1
    rw [S'.len] at h1
    exact ⟨_, List.getElem?_eq_getElem h1⟩
  obtain ⟨a', vs, m, g1, g2, g3⟩ := S'.cell i ds0 hds0
  rw [ha] at g1; cases g1
  refine ⟨⟨_, g2, rfl⟩, fun b hb => by cases hb; exact ⟨_, g2, rfl⟩, ?_⟩
  rw [ht]
  refine P.append_list ?_
  refine h.run A env s' W' _ _ Rm (V.move (st.moves S.lists) st.pre) S' fun u s'' W'' st' S'' ru => ?_
  obtain ⟨a'', vs2, m2, q1, q2, q3⟩ := S''.cell i ds hds
  have hW : W''[i]? = some a := by
    obtain ⟨t, rfl⟩ := st'.pre
    rw [List.getElem?_append_left (List.getElem?_eq_some_iff.mp ha).1]; exact ha
  rw [hW] at q1; cases q1
  have hsz : vs2.length ≤ 1000000 := by rw [q3.length]; exact hz
  refine ⟨vs2.toArray, m2, by rw [List.size_toArray]; simp only [sizeLine]; omega, q2, ?_⟩
  have e' : (s''.heap.update a (Obj.mapSeq fun xs => xs.push u)).get? a = some (lObj (vs2 ++ [u]) (m2 + 1)) := by
    rw [Heap.get?_update_self _ q2 rfl, mapSeq_push]; simp [lObj]
  obtain ⟨st3, S3⟩ := S''.setCell (tk := s''.toks) hW q2 (Heap.SameBut.update ..) e' (q3.append (.cons ru .nil)) (List.getElem?_eq_some_iff.mp hds).1
  exact hQ _ _ W'' ((st.trans st').trans st3) S3 .none

theorem Ev.extend (hx : Γ.lookup x = some (.cell i)) (hd : (x == ("__debug__" : Str)) = false) (h : Ev c n sc Γ σ e (.val (.list es)) σ₁) (hp : plainE e = true) (hds : σ₁[i]? = some ds) (hz : ds.length + es.length ≤ 1000000) (hl : (apos.endLine == pos.line) = true) :
    Ev c n sc Γ σ (.Call (.Attribute (.Name x p) (Str.ofString "extend") apos) [e] [] pos) (.val .none) (σ₁.set i (ds ++ es)) := by
  refine ⟨?_⟩
  intro A env s W Q E Rm V S hQ
  have ht : backTo pos (starEach [e] env) = [(false, eval e env)] := by rw [starEach_plain hp]; rfl
  refine wpAny_Call_method (T := "list") (id := "list.extend") rfl (by rw [ht]; rfl) hl F.plainAttrs_list F.slot_list_extend (by kernel_rfl) ?_
  refine (Ev.name hx hd).run A env s W _ _ Rm V S fun v s' W' st S' rv => ?_
  obtain ⟨a, ha, rfl⟩ := rv
  obtain ⟨ds0, hds0⟩ : ∃ ds0, σ[i]? = some ds0 := by
    have h1 := (List.getElem?_eq_some_iff.mp ha).1
    rw [S'.len] at h1
    exact ⟨_, List.getElem?_eq_getElem h1⟩
  obtain ⟨a', vs, m, g1, g2, g3⟩ := S'.cell i ds0 hds0
  rw [ha] at g1; cases g1
  refine ⟨⟨_, g2, rfl⟩, fun b hb => by cases hb; exact ⟨_, g2, rfl⟩, ?_⟩
  rw [ht]
  refine P.extend_list ?_
  refine h.run A env s' W' _ _ Rm (V.move (st.moves S.lists) st.pre) S' fun u s'' W'' st' S'' ru => ?_
  obtain ⟨a'', vs2, m2, q1, q2, q3⟩ := S''.cell i ds hds
  have hW : W''[i]? = some a := by
    obtain ⟨t, rfl⟩ := st'.pre
    rw [List.getElem?_append_left (List.getElem?_eq_some_iff.mp ha).1]; exact ha
  rw [hW] at q1; cases q1
  cases ru with
  | @list b us m3 _ e1 _ r1 =>
    have hsz : vs2.length + us.length ≤ 1000000 := by rw [q3.length, r1.length]; exact hz
    refine ⟨b, vs2.toArray, us.toArray, m2, m3, by rw [List.size_toArray]; simp only [sizeLine]; omega, by rw [List.size_toArray, List.size_toArray]; simp only [sizeLine]; omega,
      extend_door (by rw [List.size_toArray, List.size_toArray]; simp only [sizeLine]; omega), rfl, q2, e1, ?_⟩
    have e' : (s''.heap.update a (Obj.mapSeq fun xs => xs ++ us.toArray)).get? a = some (lObj (vs2 ++ us) (if (vs2.toArray ++ us.toArray).size == vs2.toArray.size then m2 else m2 + 1)) := by
      rw [Heap.get?_update_self _ q2 rfl, mapSeq_app]; simp [lObj]
    obtain ⟨st3, S3⟩ := S''.setCell (tk := s''.toks) hW q2 (Heap.SameBut.update ..) e' (q3.append r1) (List.getElem?_eq_some_iff.mp hds).1
    exact hQ _ _ W'' ((st.trans st').trans st3) S3 .none

theorem mapSeq_pop (its : Array Value) (n k : Nat) : ∃ n', Obj.mapSeq (fun xs => xs.eraseIdxIfInBounds k) { cls := .type "list", dict := none, data := .seq its n, slots := #[] } = { cls := .type "list", dict := none, data := .seq (its.eraseIdxIfInBounds k) n', slots := #[] } := ⟨_, rfl⟩

theorem Ev.pop (hx : Γ.lookup x = some (.cell i)) (hd : (x == ("__debug__" : Str)) = false) (hds : σ[i]? = some (ds ++ [d])) (hz : ds.length ≤ 1000000) (hl : (apos.endLine == pos.line) = true) :
    Ev c n sc Γ σ (.Call (.Attribute (.Name x p) (Str.ofString "pop") apos) [] [] pos) (.val d) (σ.set i ds) := by
  refine ⟨?_⟩
  intro A env s W Q E Rm V S hQ
  refine wpAny_Call_method (T := "list") (id := "list.pop") rfl rfl hl F.plainAttrs_list F.slot_list_pop (by kernel_rfl) ?_
  refine (Ev.name hx hd).run A env s W _ _ Rm V S fun v s' W' st S' rv => ?_
  obtain ⟨a, ha, rfl⟩ := rv
  obtain ⟨a', vs, m, g1, g2, g3⟩ := S'.cell i _ hds
  rw [ha] at g1; cases g1
  refine ⟨⟨_, g2, rfl⟩, fun b hb => by cases hb; exact ⟨_, g2, rfl⟩, ?_⟩
  obtain ⟨us, u, rfl, r1, r2⟩ := g3.last
  have hsz : us.length ≤ 1000000 := by rw [r1.length]; exact hz
  have hsz2 : (us ++ [u]).toArray.size = us.length + 1 := by simp
  refine P.pop_list (y := u) g2 (by rw [hsz2]; simp) ?_ (by rw [hsz2]; simp only [sizeLine]; omega)
  rw [hsz2, Nat.add_sub_cancel]
  have her : ((us ++ [u]).toArray.eraseIdxIfInBounds us.length) = us.toArray := by
    simp only [List.eraseIdxIfInBounds_toArray]
    congr 1
    rw [List.eraseIdx_append_of_length_le (Nat.le_refl _)]; simp
  obtain ⟨m', hm'⟩ := mapSeq_pop (us ++ [u]).toArray m us.length
  have e' : (s'.heap.update a (Obj.mapSeq fun xs => xs.eraseIdxIfInBounds us.length)).get? a = some (lObj us m') := by
    rw [Heap.get?_update_self _ g2 rfl, hm', her]
  obtain ⟨st3, S3⟩ := S'.setCell (tk := s'.toks) ha g2 (Heap.SameBut.update ..) e' r1 (List.getElem?_eq_some_iff.mp hds).1
  have M : Moves W' W' s'.heap (s'.heap.update a (Obj.mapSeq fun xs => xs.eraseIdxIfInBounds us.length)) := st3.moves S'.lists
  exact hQ _ _ W' (st.trans st3) S3 (Rep.move M r2)

/-- an expression alone on its row -/
theorem After.expr (h : Ev c n sc Γ σ e b σ₁) (hi : ∀ env : Env, env.scope = sc → interactive env = false) (hs : ∀ env : Env, swapsWith e none pos.line env = pure false) : After c n sc (.Expr e pos) Γ σ Γ σ₁ := by
  refine ⟨?_⟩
  intro A env s₀ W₀ s W Q E Rm F hQ
  exact wpAny_Expr_any (h.inFrame F Rm fun v s' W' st F' rv => hQ s' W' F') (hi env F.vars.scope) (hs env)

theorem setItem_exact {prog : Program} {w : World} {A : Around} {E : Value → Shared → Prop} {l : Addr} {vs : List Value} {m j : Nat} {k : Int} {t : Tok} {u : Value} {Q : Unit → Shared → Prop} (hl : s.heap.get? l = some (lObj vs m)) (hk : k = (j : Int)) (hj : j < vs.length) (hz : vs.length ≤ 1000000)
    (hQ : ∀ h', h'.get? l = some (lObj (vs.set j u) m) → Heap.SameBut l s.heap h' → Q () { s with heap := h' }) : wpAny (model prog w) A (setItem (.ref l) (.int k t) u) Q E s := by
  have h0 : 0 ≤ k := by omega
  have hfit : k < 2 ^ 63 := by omega
  have hL : s.heap.IsList l vs.toArray := ⟨_, hl, rfl, _, rfl⟩
  unfold setItem
  try with_reducible refine wpAny_holding ?_
  first | refine wpAny_bind (wpAny_pure ?_) | skip
  refine wpAny_bind (wpAny_sequenceKey hL.typeIs (by decide) ?_)
  refine wpAny_bind (wpAny_callSpecial?_slot (name := Str.ofString "__setitem__") hL.typeIs slot_list_setitem
    (wpAny_call_entry slot_list_setitem hL.typeIs entry_list_setitem ?_ (args_list_setitem _ _ _)))
  show wpAny _ _ (Builtin.List.listSubscript? (.int k t) >>= _) _ _ s
  refine wpAny_bind (wpAny_listSubscript_int (fitsIndex_of h0 hfit) ?_)
  clear hfit h0
  subst hk
  have hx' : vs.toArray[j]? = some vs[j] := by simp [hj]
  show wpAny _ _ ((seqItemAt l j >>= fun r => pure (r.map (j, ·))) >>= _) _ _ s
  refine wpAny_bind (wpAny_bind (wpAny_seqItemAt hl rfl (wpAny_pure ?_)))
  rw [hx']
  show wpAny _ _ (setSeqItemAt l j u >>= _) _ _ s
  have e' : (s.heap.update l (Obj.mapSeq (·.setIfInBounds j u))).get? l = some (lObj (vs.set j u) m) := by
    rw [Heap.get?_update_self _ hl rfl]
    simp [lObj, Obj.mapSeq]
  refine wpAny_bind (wpAny_setSeqItemAt hl rfl ?_)
  first
    | exact wpAny_bind (wpAny_pure (wpAny_pure ⟨.none, rfl, wpAny_pure (hQ _ e' (Heap.SameBut.update ..))⟩))
    | exact wpAny_pure ⟨.none, rfl, wpAny_pure (hQ _ e' (Heap.SameBut.update ..))⟩

theorem RepAll.set {h : Heap} {vs : List Value} {u : Value} (r : RepAll W h vs ds) (q : Rep W h u d) (j : Nat) : RepAll W h (vs.set j u) (ds.set j d) := by
  induction vs generalizing ds j with
  | nil => cases r; exact .nil
  | cons v vs ih =>
    cases r with
    | cons a b =>
      cases j with
      | zero => exact .cons q b
      | succ j => exact .cons a (ih b j)

/-- vial[j] = e -/
theorem After.item {j k0 : Nat} (hx : Γ.lookup x = some (.cell i)) (hd : (x == ("__debug__" : Str)) = false) (h : Ev c n sc Γ σ e (.val d) σ₁) (hds : σ₁[i]? = some ds) (hj : j < ds.length) (hz : ds.length ≤ 1000000)
    (hs : ∀ env : Env, env.scope = sc → swapsWith e (some (.Subscript (.Name x p) (.Constant (.int j) k0 p1) p2)) pos.line env = pure false) :
    After c n sc (.Assign [.Subscript (.Name x p) (.Constant (.int j) k0 p1) p2] e pos) Γ σ Γ (σ₁.set i (ds.set j d)) := by
  refine ⟨?_⟩
  intro A env s₀ W₀ s W Q E Rm F hQ
  refine wpAny_Assign_Subscript (h.inFrame F Rm fun u s' W' st F' ru => ?_) (hs env F.vars.scope)
  refine (Ev.name hx hd).run A env s' W' _ _ Rm F'.vars F'.st fun v s2 W2 st2 S2 rv => ?_
  have F2 := F'.move st2 S2
  have ru2 := ru.move (st2.moves F'.st.lists) st2.pre
  obtain ⟨a, ha, rfl⟩ := rv
  refine wpAny_Constant_int ?_
  obtain ⟨a', vs, m, g1, g2, g3⟩ := S2.cell i ds hds
  rw [ha] at g1; cases g1
  refine setItem_exact (s := { s2 with toks := s2.toks + 1 }) g2 rfl (by rw [g3.length]; exact hj) (by rw [g3.length]; exact hz) fun h' e' hsb => ?_
  obtain ⟨st3, S3⟩ := S2.setCell (tk := s2.toks + 1) ha g2 hsb e' (g3.set ru2 j) (List.getElem?_eq_some_iff.mp hds).1
  exact hQ _ W2 (F2.move st3 S3)
end
/-- what a loop walks over: an iterator I at its start, and what it yields -/
structure Itr (c : Cx) (W : List Addr) (h : Heap) (I : Addr) (fp : List Addr) (P : Nat → Value → Prop) (T : Nat → Heap → Prop) (vs : List Value) (ds : List PyData) : Prop where
  walk : ∀ A : Around, A.handled = none → Walks PG c.w A I fp [I] ds.length P T
  start : T 0 h
  fields : ∀ i h, T i h → ∃ o fs, h.get? I = some o ∧ o.data = .fields fs
  out : ∀ b ∈ fp, b ∉ W
  src : ∀ b ∈ fp, b ≠ I → ∃ o xs n, h.get? b = some o ∧ o.data = .seq xs n
  rep : RepAll W h vs ds
  item : ∀ i v, i < ds.length → P i v → ∃ d, ds[i]? = some d ∧ ∀ (W : List Addr) (h : Heap), RepAll W h vs ds → Rep W h v d

structure EvIt (c : Cx) (n : Nat) (sc : Scope) (Γ : Gam) (σ : Sto) (iter : Expr) (ds : List PyData) (σ' : Sto) : Prop where
  run : ∀ (A : Around) (env : Env) (s : Shared) (W : List Addr) (Q : Value → Shared → Prop) (E : Value → Shared → Prop),
    Room n A → Vars W env sc Γ s.heap → St c W σ s →
    (∀ I fp P T vs s' W', Step W W' s s' → St c W' σ' s' → s.heap.get? I = none → Itr c W' s'.heap I fp P T vs ds → Q (.ref I) s') →
    wpAny c.M A (eval iter env) (fun x s₁ => wpAny c.M A (pyIter x) Q E s₁) E s

section
variable {c : Cx} {n : Nat} {sc : Scope} {Γ Γ' : Gam} {σ σ₁ σ₂ : Sto} {env : Env} {W₀ W W' : List Addr} {s₀ s s' : Shared} {b : B} {v : Value} {x : Str} {e l r iter : Expr} {pos apos p p1 p2 np : Pos} {k : Nat} {ss rest body orelse : List Stmt} {R : Res} {i : Nat} {ds es : List PyData} {d : PyData}

theorem get_none {h : Heap} {a : Addr} (ha : h.objs.size ≤ a) : h.get? a = none := by
  cases q : h.get? a with
  | none => rfl
  | some o => exact absurd (Heap.lt_size q) (Nat.not_lt.mpr ha)

theorem Step.fresh_back (st : Step W W' s s') (l : AllLists W' s'.heap) {a : Addr} (h : s'.heap.get? a = none) : s.heap.get? a = none := by
  cases q : s.heap.get? a with
  | none => rfl
  | some o =>
    by_cases ha : a ∈ W
    · obtain ⟨vs, m, e⟩ := l a (st.pre.subset ha)
      rw [h] at e; cases e
    · have := st.keep a o ha q; rw [h] at this; cases this

theorem EvIt.list (h : Ev c n sc Γ σ iter (.val (.list ds)) σ₁) : EvIt c n sc Γ σ iter ds σ₁ := by
  refine ⟨?_⟩
  intro A env s W Q E Rm V S hQ
  refine h.run A env s W _ _ Rm V S fun v s' W' st S' rv => ?_
  cases rv with
  | @list a vs m _ e1 hn r1 =>
    have hlt : a < s'.heap.objs.size := Heap.lt_size e1
    have kp : ∀ b o, s'.heap.get? b = some o → (s'.heap.push { cls := .type "list_iterator", data := .fields #[.ref a, .int 0 0] }).get? b = some o := fun b o e => Heap.get?_push_of_some _ e
    refine wpAny_pyIter_list ⟨_, e1, rfl, _, rfl⟩ ?_
    have hlen : vs.toArray.size = ds.length := by simp [r1.length]
    refine hQ s'.heap.objs.size [s'.heap.objs.size, a] _ _ vs { s' with heap := _ } W' (st.trans (Step.of_keeps kp)) (S'.keeps kp) (st.fresh_back S'.lists (get_none (Nat.le_refl _)))
      { walk := fun A' hA => hlen ▸ Walks.list hA _ a (Nat.ne_of_lt hlt) vs.toArray, start := ⟨⟨_, Heap.get?_push_size _ rfl, rfl, rfl⟩, ⟨_, kp _ _ e1, rfl, _, rfl⟩⟩, fields := fun i h hT => ?_, out := fun b hb => ?_, src := fun b hb hne => ?_, rep := r1.keeps S'.lists kp, item := fun i v hlt hP => ?_ }
    · obtain ⟨⟨o, g1, _, g2⟩, _⟩ := hT
      exact ⟨o, _, g1, g2⟩
    · rcases List.mem_cons.mp hb with rfl | hb
      · exact S'.lists.ge (Nat.le_refl _)
      · rw [List.mem_singleton.mp hb]; exact hn
    · rcases List.mem_cons.mp hb with rfl | hb
      · exact absurd rfl hne
      · rw [List.mem_singleton.mp hb]; exact ⟨_, _, _, kp _ _ e1, rfl⟩
    · have hv : vs[i]? = some v := by simpa using hP
      have hi : i < ds.length := by rw [← r1.length]; exact (List.getElem?_eq_some_iff.mp hv).1
      refine ⟨ds[i], List.getElem?_eq_getElem hi, fun W h r => ?_⟩
      obtain ⟨u, hu, ru⟩ := r.get (List.getElem?_eq_getElem hi)
      rw [hv] at hu; cases hu; exact ru

theorem EvIt.tuple (h : Ev c n sc Γ σ iter (.val (.tuple ds)) σ₁) : EvIt c n sc Γ σ iter ds σ₁ := by
  refine ⟨?_⟩
  intro A env s W Q E Rm V S hQ
  refine h.run A env s W _ _ Rm V S fun v s' W' st S' rv => ?_
  cases rv with
  | @tuple a vs m _ e1 r1 =>
    have hlt : a < s'.heap.objs.size := Heap.lt_size e1
    have kp : ∀ b o, s'.heap.get? b = some o → (s'.heap.push { cls := .type "tuple_iterator", data := .fields #[.ref a, .int 0 0] }).get? b = some o := fun b o e => Heap.get?_push_of_some _ e
    have hn : a ∉ W' := fun hm => by
      obtain ⟨us, k, e'⟩ := S'.lists a hm
      rw [e1] at e'
      have := congrArg (fun o => o.map Obj.cls) e'
      simp [tObj, lObj] at this
    refine wpAny_pyIter_tuple ⟨_, e1, rfl, _, rfl⟩ ?_
    have hlen : vs.toArray.size = ds.length := by simp [r1.length]
    refine hQ s'.heap.objs.size [s'.heap.objs.size, a] _ _ vs { s' with heap := _ } W' (st.trans (Step.of_keeps kp)) (S'.keeps kp) (st.fresh_back S'.lists (get_none (Nat.le_refl _)))
      { walk := fun A' hA => hlen ▸ Walks.tuple hA _ a (Nat.ne_of_lt hlt) vs.toArray, start := ⟨⟨_, Heap.get?_push_size _ rfl, rfl, rfl⟩, ⟨_, kp _ _ e1, rfl, _, rfl⟩⟩, fields := fun i h hT => ?_, out := fun b hb => ?_, src := fun b hb hne => ?_, rep := r1.keeps S'.lists kp, item := fun i v hlt hP => ?_ }
    · obtain ⟨⟨o, g1, _, g2⟩, _⟩ := hT
      exact ⟨o, _, g1, g2⟩
    · rcases List.mem_cons.mp hb with rfl | hb
      · exact S'.lists.ge (Nat.le_refl _)
      · rw [List.mem_singleton.mp hb]; exact hn
    · rcases List.mem_cons.mp hb with rfl | hb
      · exact absurd rfl hne
      · rw [List.mem_singleton.mp hb]; exact ⟨_, _, _, kp _ _ e1, rfl⟩
    · have hv : vs[i]? = some v := by simpa using hP
      have hi : i < ds.length := by rw [← r1.length]; exact (List.getElem?_eq_some_iff.mp hv).1
      refine ⟨ds[i], List.getElem?_eq_getElem hi, fun W h r => ?_⟩
      obtain ⟨u, hu, ru⟩ := r.get (List.getElem?_eq_getElem hi)
      rw [hv] at hu; cases hu; exact ru

theorem repAll_ints {W : List Addr} {h : Heap} : ∀ k : List Nat, RepAll W h (k.map fun i => Value.int (i : Nat) 0) (k.map fun i => PyData.int (i : Nat))
  | [] => .nil
  | i :: k => .cons (.int _ _) (repAll_ints k)

theorem range_size (m : Nat) : Builtin.Range.rangeSize 0 m 1 = m := by
  unfold Builtin.Range.rangeSize
  simp only [Int.reduceGT, if_true]
  split <;> omega

/-- range(e) -/
theorem EvIt.range {m : Nat} (hl : sc.names.lookup (Str.ofString "range") = some .globalImplicit) (hv : nsIn c.K mainGlobals (Str.ofString "range") = some none) (hm : m ≤ 1000000)
    (hp : plainE e = true) (h : Ev c n sc Γ σ e (.val (.int m)) σ₁) : EvIt c n sc Γ σ (.Call (.Name (Str.ofString "range") np) [e] [] pos) ((List.range m).map fun i => PyData.int (i : Nat)) σ₁ := by
  refine ⟨?_⟩
  intro A env s W Q E Rm V S hQ
  have hk : env.scope.kind = .function := by rw [V.scope]; exact V.kind
  have hb : bootBuiltins (Str.ofString "range") = some (.type "range") := by kernel_rfl
  refine Call_Name rfl (Name_function_global hk (by rw [V.kindOf, hl]) (loadGlobal_builtin (mg := c.mg) (mb := c.mb) ?_ (mg_none_of c.X c.g hv) ?_ ((c.bt _ (by decide)).trans hb) ?_) (by decide))
  · rw [V.glob]; exact S.ns c.g
  · rw [V.blt]; exact S.ns c.b
  · have hpl : [e].all plainE = true := by simp [hp]
    refine PyProof.Rows.callWith_type (flags_plain hpl) (evalArgs_trees (flags_plain hpl) ?_)
    rw [starEach_plain hp]
    refine Calls.spliced_cons (h.run A env s W _ _ Rm V S fun v s' W' st S' rv => Calls.spliced_nil ?_)
    cases rv with
    | int _ t =>
      refine call_range_1 ?_
      have e1 : IsRange (s'.heap.push { cls := .type "range", data := .fields #[.int 0 s'.toks, .int m t, .int 1 (s'.toks + 1)] }) s'.heap.objs.size 0 m 1 s'.toks t (s'.toks + 1) := IsRange.new ..
      refine wpAny_pyIter_range e1 ?_ ?_
      · unfold Builtin.Range.small
        rw [range_size]
        have h1 : Builtin.Range.rangeFitsLong (m : Int) = true := by unfold Builtin.Range.rangeFitsLong; rw [Bool.and_eq_true]; exact ⟨decide_eq_true (by omega), decide_eq_true (by omega)⟩
        have h2 : Builtin.Range.rangeFitsLong ((m : Int) + (1 - 1)) = true := by rw [show ((m : Int) + (1 - 1)) = m by omega]; exact h1
        rw [h1, show Builtin.Range.rangeFitsLong 0 = true by decide, show Builtin.Range.rangeFitsLong 1 = true by decide]
        simp only [Int.reduceGT, if_true, h2, Bool.and_true, Bool.or_true]
      · rw [range_size]
        have kp : ∀ b o, s'.heap.get? b = some o → ((s'.heap.push { cls := .type "range", data := .fields #[.int 0 s'.toks, .int m t, .int 1 (s'.toks + 1)] }).push { cls := .type "range_iterator", data := .fields #[rawInt 0, rawInt m, rawInt 1] }).get? b = some o := fun b o e => Heap.get?_push_of_some _ (Heap.get?_push_of_some _ e)
        have hI : s'.heap.objs.size ≤ (s'.heap.push { cls := .type "range", data := .fields #[.int 0 s'.toks, .int m t, .int 1 (s'.toks + 1)] }).objs.size := by rw [Heap.size_push]; exact Nat.le_succ _
        have hlen : ((List.range m).map fun i => PyData.int (i : Nat)).length = m := by simp
        refine hQ _ [_] _ _ ((List.range m).map fun i => Value.int (i : Nat) 0) { s' with heap := _, toks := _ } W' (st.trans (Step.of_keeps kp)) (S'.keeps kp) (st.fresh_back S'.lists (get_none hI))
          { walk := fun A' hA => hlen ▸ Walks.range hA _ 0 1 m, start := ?_, fields := fun i h hT => ⟨_, _, hT, rfl⟩, out := fun b hb => ?_, src := fun b hb hne => absurd (List.mem_singleton.mp hb) hne, rep := repAll_ints _, item := fun i v hlt hP => ?_ }
        · have := Heap.get?_push_size (s'.heap.push { cls := .type "range", data := .fields #[.int 0 s'.toks, .int m t, .int 1 (s'.toks + 1)] }) (o := { cls := .type "range_iterator", data := .fields #[rawInt 0, rawInt m, rawInt 1] }) rfl
          simpa [IsRangeIter] using this
        · rw [List.mem_singleton.mp hb]
          exact S'.lists.ge hI
        · obtain ⟨t', rfl⟩ := hP
          have hi : i < m := by simpa using hlt
          refine ⟨.int i, by simp [hi], fun W h r => ?_⟩
          rw [show (0 + (i : Int) * 1) = i by omega]
          exact .int _ _
end
/-- the state, what the frame stores into taken away -/
noncomputable def hid (env : Env) (s : Shared) : Shared := { s with heap := hideAll s.heap (env.locals :: env.cells.map (·.2)) }

section
variable {c : Cx} {n : Nat} {sc : Scope} {Γ Γ' : Gam} {σ σ₁ σ₂ : Sto} {env : Env} {W₀ W W' : List Addr} {s₀ s s' : Shared} {b : B} {v : Value} {x : Str} {e l r iter t : Expr} {pos apos p p1 p2 np : Pos} {k : Nat} {ss rest body orelse : List Stmt} {R : Res} {i : Nat} {ds es : List PyData} {d : PyData}

theorem lookup_mem_map {x : Str} {a : Addr} (h : env.cells.lookup x = some a) : a ∈ env.cells.map (·.2) := List.mem_map.mpr ⟨(x, a), mem_of_lookup h, rfl⟩

/-- a frame's own addresses: none of them stood before -/
structure OwnAll (env : Env) (s₀ : Shared) : Prop where
  own : s₀.heap.get? env.locals = none
  all : ∀ a ∈ env.cells.map (·.2), s₀.heap.get? a = none

theorem Fx.rebase (F : Fx c env sc W₀ s₀ W Γ σ s) (O : OwnAll env s₀) : Fx c env sc W (hid env s) W Γ σ s := by
  refine ⟨F.vars, F.st, ⟨⟨s.heap, s.toks, rfl⟩, List.prefix_rfl, fun _ h1 h2 => absurd h1 h2, fun b o _ e => of_hideAll _ e⟩, hideAll_none _ (.head _), fun y a e => hideAll_none _ (.tail _ (lookup_mem_map e)), fun b o e => ?_⟩
  have h0 := F.base0 b o e
  refine hideAll_get _ (F.st.base b o e) fun hm => ?_
  rcases List.mem_cons.mp hm with rfl | hm
  · rw [O.own] at h0; cases h0
  · rw [O.all b hm] at h0; cases h0

theorem step_unbase (F : Fx c env sc W₀ s₀ W Γ σ s) (O : OwnAll env s₀) (st : Step W W' (hid env s) s') : Step W₀ W' s₀ s' := by
  obtain ⟨h1, t1, e1⟩ := F.step.same
  obtain ⟨h2, t2, e2⟩ := st.same
  have up : ∀ b o, b ∉ W₀ → s₀.heap.get? b = some o → (hid env s).heap.get? b = some o := fun b o hb e => by
    refine hideAll_get _ (F.step.keep b o hb e) fun hm => ?_
    rcases List.mem_cons.mp hm with rfl | hm
    · rw [O.own] at e; cases e
    · rw [O.all b hm] at e; cases e
  refine ⟨⟨h2, t2, by rw [e2]; unfold hid; rw [e1]⟩, F.step.pre.trans st.pre, fun b hb hn => ?_, fun b o hb e => ?_⟩
  · by_cases hm : b ∈ W
    · exact F.step.fresh b hm hn
    · have h := st.fresh b hb hm
      cases q : s₀.heap.get? b with
      | none => rfl
      | some o => have := up b o hn q; rw [h] at this; cases this
  · refine st.keep b o (fun hm => ?_) (up b o hb e)
    rw [F.step.fresh b hm hb] at e; cases e

theorem Fx.unbase {s' : Shared} (F : Fx c env sc W₀ s₀ W Γ σ s) (O : OwnAll env s₀) (G : Fx c env sc W (hid env s) W' Γ' σ₁ s') : Fx c env sc W₀ s₀ W' Γ' σ₁ s' :=
  ⟨G.vars, G.st, step_unbase F O G.step, F.own, F.ownC, F.base0⟩

/-- what is no dict and no cell, and no list that turns, stands behind a turn as it stood -/
theorem kept_of_hid (st : Step W W' (hid env s) s') (hd : ∃ m, s.heap.Ns env.locals m) (hc : ∀ a ∈ env.cells.map (·.2), ∃ v, s.heap.IsCell a v) {b : Addr} {o : Obj} (hb : b ∉ W) (e : s.heap.get? b = some o)
    (h1 : ∀ es n, o.data ≠ .dict es n) (h2 : ∀ v, o.data ≠ .cell v) : s'.heap.get? b = some o := by
  refine st.keep b o hb (hideAll_get _ e fun hm => ?_)
  rcases List.mem_cons.mp hm with rfl | hm
  · obtain ⟨m, o', es, ep, q, q', _⟩ := hd
    rw [e] at q; cases q; exact h1 _ _ q'
  · obtain ⟨v, o', q, q'⟩ := hc b hm
    rw [e] at q; cases q; exact h2 _ q'

inductive ForR (c : Cx) (n : Nat) (sc : Scope) (x : Str) (body : List Stmt) : List PyData → Gam → Sto → Res → Prop
  | nil {Γ : Gam} {σ : Sto} : ForR c n sc x body [] Γ σ (.next Γ σ)
  | cons {d : PyData} {ds : List PyData} {Γ Γ' : Gam} {σ σ' : Sto} {R : Res} : Exec c n sc ((x, .val d) :: Γ) σ body (.next Γ' σ') → ForR c n sc x body ds Γ' σ' R → ForR c n sc x body (d :: ds) Γ σ R
  | ret {d : PyData} {ds : List PyData} {Γ : Gam} {σ σ' : Sto} {b : B} : Exec c n sc ((x, .val d) :: Γ) σ body (.ret b σ') → ForR c n sc x body (d :: ds) Γ σ (.ret b σ')
  | weaken {ds : List PyData} {Γ Γ' : Gam} {σ : Sto} {R : Res} : (∀ x b, Γ'.lookup x = some b → Γ.lookup x = some b) → ForR c n sc x body ds Γ' σ R → ForR c n sc x body ds Γ σ R

theorem ForR.split {c : Cx} {n : Nat} {sc : Scope} {x : Str} {body : List Stmt} : ∀ {ds : List PyData} {Γ : Gam} {σ : Sto} {R : Res}, ForR c n sc x body ds Γ σ R →
    match ds with
    | [] => ∃ Γ', R = .next Γ' σ ∧ ∀ x b, Γ'.lookup x = some b → Γ.lookup x = some b
    | d :: ds => (∃ Γ₁ Γ' σ', (∀ x b, Γ₁.lookup x = some b → Γ.lookup x = some b) ∧ Exec c n sc ((x, .val d) :: Γ₁) σ body (.next Γ' σ') ∧ ForR c n sc x body ds Γ' σ' R) ∨
        (∃ Γ₁ b σ', R = .ret b σ' ∧ (∀ x b, Γ₁.lookup x = some b → Γ.lookup x = some b) ∧ Exec c n sc ((x, .val d) :: Γ₁) σ body (.ret b σ')) := by
  intro ds Γ σ R h
  induction h with
  | nil => exact ⟨_, rfl, fun _ _ e => e⟩
  | cons h1 h2 _ => exact .inl ⟨_, _, _, fun _ _ e => e, h1, h2⟩
  | ret h1 => exact .inr ⟨_, _, _, rfl, fun _ _ e => e, h1⟩
  | @weaken ds Γ Γ' σ R hw h ih =>
    cases ds with
    | nil =>
      obtain ⟨Γ₂, h1, h2⟩ := ih
      exact ⟨Γ₂, h1, fun x b e => hw x b (h2 x b e)⟩
    | cons d ds =>
      rcases ih with ⟨Γ₁, Γ₂, σ', h1, h2, h3⟩ | ⟨Γ₁, b, σ', h1, h2, h3⟩
      · exact .inl ⟨Γ₁, Γ₂, σ', fun x b e => hw x b (h1 x b e), h2, h3⟩
      · exact .inr ⟨Γ₁, b, σ', h1, fun x b e => hw x b (h2 x b e), h3⟩

theorem SeqKeep.of_fields {h h' : Heap} {I : Addr} {o : Obj} {fs : Array Value} (e : h.get? I = some o) (d : o.data = .fields fs) (s : ∀ b o, b ≠ I → h.get? b = some o → h'.get? b = some o) : SeqKeep h h' := by
  refine fun b vs k => ⟨fun q => ?_, fun q => ?_⟩
  all_goals
    refine s b _ (fun hb => ?_) q
    subst hb
    rw [e] at q; cases q; cases d

/-- an iterator's turn -/
theorem Fx.other (F : Fx c env sc W₀ s₀ W Γ σ s) {I : Addr} {o : Obj} {fs : Array Value} (e : s.heap.get? I = some o) (d : o.data = .fields fs) (h0 : s₀.heap.get? I = none) {h' : Heap} {tk : Nat} (k : ∀ b o, b ≠ I → s.heap.get? b = some o → h'.get? b = some o) :
    Fx c env sc W₀ s₀ W Γ σ { s with heap := h', toks := tk } := by
  have sk := SeqKeep.of_fields e d k
  obtain ⟨m, cm, hn, hc, hg⟩ := F.vars.frame
  obtain ⟨hh, tk0, hs0⟩ := F.step.same
  have base : ∀ b o, c.hb.get? b = some o → h'.get? b = some o := fun b o q => k b o (fun hb => by have := F.base0 b o q; rw [hb, h0] at this; cases this) (F.st.base b o q)
  refine ⟨⟨F.vars.scope, F.vars.kind, F.vars.glob, F.vars.blt, F.vars.apart, F.vars.has, F.vars.dist, ⟨m, cm, ?_, fun y a q => ?_, fun y b' q => ?_⟩⟩, F.st.seqs sk base, ⟨⟨h', tk, by rw [hs0]⟩, F.step.pre, F.step.fresh, fun b o hb q => k b o (fun hb' => by rw [hb', h0] at q; cases q) (F.step.keep b o hb q)⟩, F.own, F.ownC, F.base0⟩
  · refine hn.at' fun o' q => k _ o' (fun hb => ?_) q
    obtain ⟨o'', es, ep, g1, g2, _⟩ := hn
    rw [hb, e] at g1; cases g1; rw [d] at g2; cases g2
  · obtain ⟨o', g1, g2⟩ := hc y a q
    exact ⟨o', k a o' (fun hb => by rw [hb, e] at g1; cases g1; rw [d] at g2; cases g2) g1, g2⟩
  · obtain ⟨u, h1, h2⟩ := hg y b' q
    exact ⟨u, h1, h2.seqs sk⟩

theorem OwnAll.cells (F : Fx c env sc W₀ s₀ W Γ σ s) (O : OwnAll env s₀) (hcells : ∀ a ∈ env.cells.map (·.2), ∃ x, env.cells.lookup x = some a) : ∀ a ∈ env.cells.map (·.2), ∃ v, s.heap.IsCell a v := by
  intro a ha
  obtain ⟨x, hx⟩ := hcells a ha
  obtain ⟨m, cm, hn, hc, hg⟩ := F.vars.frame
  exact ⟨_, hc x a hx⟩

theorem drop_at {α : Type} {ds : List α} {i : Nat} {d : α} (hlt : i < ds.length) (hd : ds[i]? = some d) : ds.drop i = d :: ds.drop (i + 1) := by
  rw [List.drop_eq_getElem_cons hlt]
  rw [List.getElem?_eq_getElem hlt] at hd
  cases hd; rfl
/-- no dict, no cell -/
noncomputable def Plain (o : Obj) : Prop := (∀ es n, o.data ≠ .dict es n) ∧ ∀ v, o.data ≠ .cell v
theorem Plain.fields {o : Obj} {fs : Array Value} (h : o.data = .fields fs) : Plain o := ⟨fun _ _ e => (nomatch h.symm.trans e), fun _ e => (nomatch h.symm.trans e)⟩
theorem Plain.seq {o : Obj} {xs : Array Value} {n : Nat} (h : o.data = .seq xs n) : Plain o := ⟨fun _ _ e => (nomatch h.symm.trans e), fun _ e => (nomatch h.symm.trans e)⟩
theorem plain_of {h h₁ : Heap} {I : Addr} {fp : List Addr} (src : ∀ b ∈ fp, b ≠ I → ∃ o xs n, h.get? b = some o ∧ o.data = .seq xs n) (f₁ : ∃ o fs, h₁.get? I = some o ∧ o.data = .fields fs) (k₁ : ∀ b o, b ≠ I → h.get? b = some o → h₁.get? b = some o) :
    ∀ b ∈ fp, ∃ o, h₁.get? b = some o ∧ Plain o := by
  intro b hb
  by_cases hbI : b = I
  · obtain ⟨o, fs, e, d⟩ := f₁
    exact ⟨o, hbI ▸ e, .fields d⟩
  · obtain ⟨o, xs, m, g1, g2⟩ := src b hb hbI
    exact ⟨o, k₁ b o hbI g1, .seq g2⟩
theorem plain_keep {h₁ h₂ : Heap} {fp : List Addr} (pl : ∀ b ∈ fp, ∃ o, h₁.get? b = some o ∧ Plain o) (sk : NKeep h₁ h₂) : ∀ b ∈ fp, ∀ o, h₁.get? b = some o → h₂.get? b = some o := by
  intro b hb o q
  obtain ⟨o', g1, g2⟩ := pl b hb
  rw [g1] at q; cases q
  exact sk b _ g2.1 g2.2 g1
/-- a loop at work, k items before its end -/
structure ForAt (c : Cx) (n : Nat) (sc : Scope) (env : Env) (W₀ : List Addr) (s₀ : Shared) (x : Str) (body : List Stmt) (R : Res) (I : Addr) (fp : List Addr) (T : Nat → Heap → Prop) (vs : List Value) (ds : List PyData) (i : Nat) (Γ : Gam) (σ : Sto) (W : List Addr) (s : Shared) : Prop where
  le : i ≤ ds.length
  F : Fx c env sc W₀ s₀ W Γ σ s
  out : ∀ b ∈ fp, b ∉ W
  src : ∀ b ∈ fp, b ≠ I → ∃ o xs n, s.heap.get? b = some o ∧ o.data = .seq xs n
  hT : T i s.heap
  rep : RepAll W s.heap vs ds
  hF : ForR c n sc x body (ds.drop i) Γ σ R
noncomputable def ForK (c : Cx) (n : Nat) (sc : Scope) (env : Env) (W₀ : List Addr) (s₀ : Shared) (x : Str) (body : List Stmt) (R : Res) (I : Addr) (fp : List Addr) (T : Nat → Heap → Prop) (vs : List Value) (ds : List PyData) (k : Nat) (s : Shared) : Prop :=
  ∃ i Γ σ W, k = ds.length - i ∧ ForAt c n sc env W₀ s₀ x body R I fp T vs ds i Γ σ W s
theorem codeFor {A : Around} {E : Value → Shared → Prop} {Q : Flow → Shared → Prop} {I : Addr} {fp : List Addr} {P : Nat → Value → Prop} {T : Nat → Heap → Prop} {vs : List Value}
    (Rm : Room n A) (hx : storable sc x = true) (O : OwnAll env s₀) (hcells : ∀ a ∈ env.cells.map (·.2), ∃ x, env.cells.lookup x = some a) (F : Fx c env sc W₀ s₀ W Γ σ s) (hI0 : s₀.heap.get? I = none) (It : Itr c W s.heap I fp P T vs ds)
    (hFor : ForR c n sc x body ds Γ σ R) (hQ : Ends c env sc W₀ s₀ Q R) :
    codeAny c.M A (.forLoop (.Name x p) (.ref I) body [] env) (fun r s' => match r with | .ok f => Q f s' | .error e => cameBackBy c.M A env E e s') s := by
  have Wk := It.walk A Rm.handled
  refine codeAny_forLoop (I := ForK c n sc env W₀ s₀ x body R I fp T vs ds) ?_ ds.length ⟨0, Γ, σ, W, rfl, Nat.zero_le _, F, It.out, It.src, It.start, It.rep, hFor⟩
  rintro k s ⟨i, Γ, σ, W, rfl, hi, F, out, src, hT, hr, hFor⟩
  have hIfp : I ∈ fp := Wk.sub I (.head _)
  obtain ⟨oI, fs, hoI, hdI⟩ := It.fields i _ hT
  rcases Nat.lt_or_ge i ds.length with hlt | hge
  · refine Wk.item i s _ _ hlt hT fun v h₁ tk₁ hP hT₁ hk₁ => ?_
    have k₁ : ∀ b o, b ≠ I → s.heap.get? b = some o → h₁.get? b = some o := fun b o hb q => hk₁ b o (by simpa using hb) q
    have F₁ := F.other (tk := tk₁) hoI hdI hI0 k₁
    have sk₁ := SeqKeep.of_fields hoI hdI k₁
    have hr₁ : RepAll W h₁ vs ds := hr.seqs sk₁
    obtain ⟨d, hd, hrep⟩ := It.item i v hlt hP
    have rv : RepB W h₁ v (.val d) := hrep W h₁ hr₁
    refine wpAny_assign_Name (F₁.store (storable_or hx) rv fun h₂ tk₂ sk₂ F₂ => ?_)
    rw [drop_at hlt hd] at hFor
    have key : ∀ {Γ₁ : Gam}, (∀ x b, Γ₁.lookup x = some b → Γ.lookup x = some b) → Fx c env sc W₀ s₀ W ((x, .val d) :: Γ₁) σ { s with heap := h₂, toks := tk₂ } := fun {Γ₁} hw => F₂.weaken fun y b' q => by
      rw [List.lookup_cons] at q ⊢
      split at q
      · exact q
      · exact hw y b' q
    -- the objects of the walk stand behind the store
    have plain₁ := plain_of src (It.fields (i + 1) _ hT₁) k₁
    have st₂ := plain_keep plain₁ sk₂
    have hr₂ : RepAll W h₂ vs ds := hr₁.seqs sk₂.seq
    -- the turn
    have turn : ∀ {s₃ : Shared} {W' : List Addr} {Γ' : Gam} {σ' : Sto} {Γ₁ : Gam}, Fx c env sc W₀ s₀ W ((x, .val d) :: Γ₁) σ { s with heap := h₂, toks := tk₂ } → Step W W' (hid env { s with heap := h₂, toks := tk₂ }) s₃ → Fx c env sc W (hid env { s with heap := h₂, toks := tk₂ }) W' Γ' σ' s₃ → ForR c n sc x body (ds.drop (i + 1)) Γ' σ' R →
        ∃ m, m < ds.length - i ∧ ForK c n sc env W₀ s₀ x body R I fp T vs ds m s₃ := by
      intro s₃ W' Γ' σ' Γ₁ F₂ st G hF
      have hcell := OwnAll.cells F₂ O hcells
      have hns : ∃ m, h₂.Ns env.locals m := by obtain ⟨m, _, hn, _⟩ := F₂.vars.frame; exact ⟨m, hn⟩
      have kept : ∀ b o, b ∉ W → h₂.get? b = some o → (∀ es n, o.data ≠ .dict es n) → (∀ v, o.data ≠ .cell v) → s₃.heap.get? b = some o := fun b o hb e h1 h2 => kept_of_hid st hns hcell hb e h1 h2
      have kfp : ∀ b ∈ fp, ∀ o, h₁.get? b = some o → s₃.heap.get? b = some o := by
        intro b hb o q
        obtain ⟨o', g1, g2⟩ := plain₁ b hb
        rw [g1] at q; cases q
        exact kept b _ (out b hb) (st₂ b hb _ g1) g2.1 g2.2
      have hidk : NKeep h₂ (hid env { s with heap := h₂, toks := tk₂ }).heap := by
        intro b o h1 h2 e
        refine hideAll_get _ e fun hm => ?_
        rcases List.mem_cons.mp hm with rfl | hm
        · obtain ⟨m, o', es, ep, q, q', _⟩ := hns
          rw [e] at q; cases q; exact h1 _ _ q'
        · obtain ⟨v, o', q, q'⟩ := hcell b hm
          rw [e] at q; cases q; exact h2 _ q'
      have hl : AllLists W (hid env { s with heap := h₂, toks := tk₂ }).heap := by
        intro b hb
        obtain ⟨us, m, e⟩ := F₂.st.lists b hb
        exact ⟨us, m, (hidk.seq _ _ _).1 e⟩
      refine ⟨ds.length - (i + 1), by omega, i + 1, Γ', σ', W', rfl, hlt, F₂.unbase O G, fun b hb hm => ?_, fun b hb hne => ?_, Wk.frame _ _ _ hT₁ kfp, (hr₂.seqs hidk.seq).move (st.moves hl), hF⟩
      · obtain ⟨o', g1, g2⟩ := plain₁ b hb
        have := st.fresh b hm (out b hb)
        rw [hidk b _ g2.1 g2.2 (st₂ b hb _ g1)] at this; cases this
      · obtain ⟨o, xs, m, g1, g2⟩ := src b hb hne
        exact ⟨o, xs, m, kfp b hb o (k₁ b o hne g1), g2⟩
    rcases hFor.split with ⟨Γ₁, Γ', σ', hw, hE, hF⟩ | ⟨Γ₁, b', σ', rfl, hw, hE⟩
    · exact hE.run A env _ W _ W _ _ Rm ((key hw).rebase O) fun s₃ W' G => turn (key hw) G.step G hF
    · exact hE.run A env _ W _ W _ _ Rm ((key hw).rebase O) fun u s₃ W' st S₃ ru => hQ u s₃ W' (step_unbase (key hw) O st) S₃ ru
  · have hin : i = ds.length := by omega
    subst hin
    rw [List.drop_length] at hFor
    obtain ⟨Γ', rfl, hw⟩ := hFor.split
    refine Wk.done s _ _ hT fun h₁ tk₁ hk₁ => ?_
    have k₁ : ∀ b o, b ≠ I → s.heap.get? b = some o → h₁.get? b = some o := fun b o hb q => hk₁ b o (by simpa using hb) q
    exact wpAny_execs_nil (hQ _ W ((F.other (tk := tk₁) hoI hdI hI0 k₁).weaken hw))

theorem Fx.ownAll (F : Fx c env sc W₀ s₀ W Γ σ s) : OwnAll env s₀ :=
  ⟨F.own, fun a ha => by obtain ⟨x, hx⟩ := F.vars.dist a ha; exact F.ownC x a hx⟩

noncomputable def Goes (c : Cx) (n : Nat) (sc : Scope) (rest : List Stmt) (R : Res) : Res → Prop
  | .next Γ' σ' => Exec c n sc Γ' σ' rest R
  | .ret b σ' => R = .ret b σ'

theorem ends_flow {R₁ : Res} {Q : Flow → Shared → Prop} {A : Around} {E : Value → Shared → Prop} (h₂ : Goes c n sc rest R R₁) (Rm : Room n A) (hQ : Ends c env sc W₀ s₀ Q R) :
    Ends c env sc W₀ s₀ (fun f s' => match f with | .next => wpAny c.M A (execs rest env) Q E s' | f => Q f s') R₁ := by
  cases R₁ with
  | next Γ' σ' => exact fun s' W' F' => h₂.run A env s₀ W₀ s' W' Q E Rm F' hQ
  | ret b σ' =>
    have h₂' : R = .ret b σ' := h₂
    subst h₂'
    exact fun v s' W' st S' rv => hQ v s' W' st S' rv

theorem Exec.forIn {R₁ : Res} (hit : EvIt c n sc Γ σ iter ds σ₁) (hx : storable sc x = true) (hs : ∀ (env : Env) (x : Value), foldedSetIterable iter env x = pure x) (hFor : ForR c n sc x body ds Γ σ₁ R₁)
    (h₂ : Goes c n sc rest R R₁) : Exec c n sc Γ σ (.For (.Name x p) iter body [] pos :: rest) R := by
  refine ⟨?_⟩
  intro A env s₀ W₀ s W Q E Rm F hQ
  refine wpAny_execs_cons (wpAny_For (hit.run A env s W _ _ Rm F.vars F.st fun I fp P T vs s' W' st S' hI It => ?_) (hs env))
  have F' := F.move st S'
  exact codeFor Rm hx F.ownAll F.vars.dist F' (F.step.fresh_back F.st.lists hI) It hFor (ends_flow h₂ Rm hQ)

inductive WhileR (c : Cx) (n : Nat) (sc : Scope) (t : Expr) (body : List Stmt) : Nat → Gam → Sto → Res → Prop
  | done {k : Nat} {Γ : Gam} {σ σ' : Sto} : Tst c n sc Γ σ t false σ' → WhileR c n sc t body k Γ σ (.next Γ σ')
  | step {k : Nat} {Γ Γ' : Gam} {σ σ' σ'' : Sto} {R : Res} : Tst c n sc Γ σ t true σ' → Exec c n sc Γ σ' body (.next Γ' σ'') → WhileR c n sc t body k Γ' σ'' R → WhileR c n sc t body (k + 1) Γ σ R
  | weaken {k : Nat} {Γ Γ' : Gam} {σ : Sto} {R : Res} : (∀ x b, Γ'.lookup x = some b → Γ.lookup x = some b) → WhileR c n sc t body k Γ' σ R → WhileR c n sc t body k Γ σ R

theorem WhileR.split {c : Cx} {n : Nat} {sc : Scope} {t : Expr} {body : List Stmt} : ∀ {k : Nat} {Γ : Gam} {σ : Sto} {R : Res}, WhileR c n sc t body k Γ σ R →
    (∃ Γ₁ σ', R = .next Γ₁ σ' ∧ (∀ x b, Γ₁.lookup x = some b → Γ.lookup x = some b) ∧ Tst c n sc Γ₁ σ t false σ') ∨
    (∃ Γ₁ Γ' σ' σ'' m, k = m + 1 ∧ (∀ x b, Γ₁.lookup x = some b → Γ.lookup x = some b) ∧ Tst c n sc Γ₁ σ t true σ' ∧ Exec c n sc Γ₁ σ' body (.next Γ' σ'') ∧ WhileR c n sc t body m Γ' σ'' R) := by
  intro k Γ σ R h
  induction h with
  | done h => exact .inl ⟨_, _, rfl, fun _ _ e => e, h⟩
  | step h1 h2 h3 _ => exact .inr ⟨_, _, _, _, _, rfl, fun _ _ e => e, h1, h2, h3⟩
  | weaken hw h ih =>
    rcases ih with ⟨Γ₁, σ', h1, h2, h3⟩ | ⟨Γ₁, Γ', σ', σ'', m, h1, h2, h3, h4, h5⟩
    · exact .inl ⟨Γ₁, σ', h1, fun x b e => hw x b (h2 x b e), h3⟩
    · exact .inr ⟨Γ₁, Γ', σ', σ'', m, h1, fun x b e => hw x b (h2 x b e), h3, h4, h5⟩

theorem Exec.whileIn {R₁ : Res} {k : Nat} (hW : WhileR c n sc t body k Γ σ R₁) (h₂ : Goes c n sc rest R R₁) : Exec c n sc Γ σ (.While t body [] pos :: rest) R := by
  refine ⟨?_⟩
  intro A env s₀ W₀ s W Q E Rm F hQ
  refine wpAny_execs_cons (wpAny_While ?_)
  have hQ' := ends_flow (env := env) (W₀ := W₀) (s₀ := s₀) (E := E) h₂ Rm hQ
  refine codeAny_whileLoop (I := fun k s => ∃ Γ σ W, Fx c env sc W₀ s₀ W Γ σ s ∧ WhileR c n sc t body k Γ σ R₁) ?_ k ⟨Γ, σ, W, F, hW⟩
  rintro k s ⟨Γ, σ, W, F, hW⟩
  rcases hW.split with ⟨Γ₁, σ', rfl, hw, ht⟩ | ⟨Γ₁, Γ', σ', σ'', m, rfl, hw, ht, hE, hW'⟩
  · refine ht.run A env s W _ _ Rm (F.weaken hw).vars F.st fun s' W' st S' => ?_
    exact wpAny_execs_nil (hQ' s' W' ((F.weaken hw).move st S'))
  · refine ht.run A env s W _ _ Rm (F.weaken hw).vars F.st fun s' W' st S' => ?_
    exact hE.run A env s₀ W₀ s' W' _ _ Rm ((F.weaken hw).move st S') fun s'' W'' F'' => ⟨m, Nat.lt_succ_self _, Γ', σ'', W'', F'', hW'⟩
end
/-- one turn of the last generator of a list comprehension -/
noncomputable def lastTurn (target iter : Expr) (ifs : List Expr) (elt : Expr) (e : Expr) (depth : Nat) (it acc : Value) (env : Env) : Sem Fin := do
  standAt iter.pos
  match ← pyNext it with
  | none => pure (.done .next)
  | some v =>
    letOwnedTupleGo target it v
    assign target env v
    let mut ok := true
    for c in ifs do
      if ok then ok ← isTrue c env (eval c env)
    if ok then
      (do let _ ← call (.builtin "list.append") [acc, ← eval elt env])
    again (.compLoop e depth it acc env)

theorem compTurn_one (elt target iter : Expr) (ifs : List Expr) (scope : Scope) (pos : Pos) (it acc : Value) (env : Env) :
    compTurn (.ListComp elt [⟨target, iter, ifs, 0⟩] scope pos) 0 it acc env = lastTurn target iter ifs elt (.ListComp elt [⟨target, iter, ifs, 0⟩] scope pos) 0 it acc env := by rfl
theorem compTurn_two (elt t0 i0 target iter : Expr) (f0 ifs : List Expr) (scope : Scope) (pos : Pos) (it acc : Value) (env : Env) :
    compTurn (.ListComp elt [⟨t0, i0, f0, 0⟩, ⟨target, iter, ifs, 0⟩] scope pos) 1 it acc env = lastTurn target iter ifs elt (.ListComp elt [⟨t0, i0, f0, 0⟩, ⟨target, iter, ifs, 0⟩] scope pos) 1 it acc env := by rfl

noncomputable def outerTurn (target iter iter2 : Expr) (e : Expr) (it acc : Value) (env : Env) : Sem Fin := do
  standAt iter.pos
  match ← pyNext it with
  | none => pure (.done .next)
  | some v =>
    letOwnedTupleGo target it v
    assign target env v
    let x ← eval iter2 env
    standAt iter2.pos
    let x ← foldedSetIterable iter2 env x
    let _ ← runOwn (.compStart e 1 (← holding [x] (pyIter x)) acc env) env
    again (.compLoop e 0 it acc env)
theorem compTurn_outer (elt t0 i0 target iter : Expr) (ifs : List Expr) (scope : Scope) (pos : Pos) (it acc : Value) (env : Env) :
    compTurn (.ListComp elt [⟨t0, i0, [], 0⟩, ⟨target, iter, ifs, 0⟩] scope pos) 0 it acc env = outerTurn t0 i0 iter (.ListComp elt [⟨t0, i0, [], 0⟩, ⟨target, iter, ifs, 0⟩] scope pos) it acc env := by rfl

section
variable {c : Cx} {n : Nat} {sc rsc : Scope} {Γ Γ' : Gam} {σ σ₁ σ₂ σ₃ : Sto} {env cenv : Env} {W₁ W₀ W W' : List Addr} {s₁ s₀ s s' : Shared} {b : B} {v : Value} {x y : Str} {e l r iter iter2 t elt : Expr} {pos apos p p1 p2 np : Pos} {k : Nat} {i : Nat} {ds es os : List PyData} {d : PyData} {ifs : List Expr} {D : Addr}

/-- the tests of a generator -/
noncomputable def Tsts (c : Cx) (n : Nat) (sc : Scope) (Γ : Gam) (σ : Sto) (ifs : List Expr) (q : Bool) (σ' : Sto) : Prop :=
  (ifs = [] ∧ q = true ∧ σ' = σ) ∨ (∃ t, ifs = [t] ∧ Tst c n sc Γ σ t q σ')

/-- the last generator's walk over ds: what it puts into the list (whose place is the last of the lists that turn) -/
inductive C1 (c : Cx) (n : Nat) (sc : Scope) (x : Str) (ifs : List Expr) (elt : Expr) (Γ : Gam) : List PyData → Sto → List PyData → Sto → Prop
  | nil {σ : Sto} : C1 c n sc x ifs elt Γ [] σ [] σ
  | cons {d o : PyData} {ds os : List PyData} {σ σ₁ σ₂ σ₃ : Sto} : (∀ τ, Tsts c n sc ((x, .val d) :: Γ) (σ ++ [τ]) ifs true (σ₁ ++ [τ])) → (∀ τ, Ev c n sc ((x, .val d) :: Γ) (σ₁ ++ [τ]) elt (.val o) (σ₂ ++ [τ])) →
      σ₁.length = σ.length → σ₂.length = σ.length → C1 c n sc x ifs elt Γ ds σ₂ os σ₃ → C1 c n sc x ifs elt Γ (d :: ds) σ (o :: os) σ₃
  | skip {d : PyData} {ds os : List PyData} {σ σ₁ σ₃ : Sto} : (∀ τ, Tsts c n sc ((x, .val d) :: Γ) (σ ++ [τ]) ifs false (σ₁ ++ [τ])) → σ₁.length = σ.length → C1 c n sc x ifs elt Γ ds σ₁ os σ₃ → C1 c n sc x ifs elt Γ (d :: ds) σ os σ₃

theorem C1.length {c : Cx} {n : Nat} {sc : Scope} {x : Str} {ifs : List Expr} {elt : Expr} {Γ : Gam} {ds os : List PyData} {σ σ' : Sto} (h : C1 c n sc x ifs elt Γ ds σ os σ') : σ'.length = σ.length ∧ os.length ≤ ds.length := by
  induction h with
  | nil => exact ⟨rfl, Nat.le_refl _⟩
  | cons _ _ _ h2 _ ih => exact ⟨ih.1.trans h2, Nat.succ_le_succ ih.2⟩
  | skip _ h1 _ ih => exact ⟨ih.1.trans h1, Nat.le_succ_of_le ih.2⟩

/-- a comprehension at work: since s₁ all but the lists that turn stands; the list it fills, D, holds os -/
structure Cf (c : Cx) (cenv : Env) (rsc : Scope) (W : List Addr) (s₁ : Shared) (Γ : Gam) (σ : Sto) (D : Addr) (os : List PyData) (s : Shared) : Prop where
  vars : Vars (W ++ [D]) cenv rsc Γ s.heap
  st : St c (W ++ [D]) (σ ++ [os]) s
  step : Step W W s₁ s
  own : s₁.heap.get? cenv.locals = none
  accNew : s₁.heap.get? D = none
  base1 : ∀ b o, c.hb.get? b = some o → s₁.heap.get? b = some o

theorem prefix_eq {α : Type} {l l' : List α} (h : l <+: l') (hl : l'.length = l.length) : l' = l := by
  obtain ⟨t, rfl⟩ := h
  have : t = [] := by
    rw [List.length_append] at hl
    exact List.length_eq_zero_iff.mp (by omega)
  rw [this, List.append_nil]

theorem Cf.same (F : Cf c cenv rsc W s₁ Γ σ D os s) (st : Step (W ++ [D]) W' s s') (S' : St c W' (σ₁ ++ [os]) s') (hl : σ₁.length = σ.length) : W' = W ++ [D] := by
  refine prefix_eq st.pre ?_
  have h1 := S'.len
  have h2 := F.st.len
  simp only [List.length_append, List.length_singleton] at h1 h2 ⊢
  omega

theorem Cf.move (F : Cf c cenv rsc W s₁ Γ σ D os s) (st : Step (W ++ [D]) W' s s') (S' : St c W' (σ₁ ++ [os]) s') (hl : σ₁.length = σ.length) : Cf c cenv rsc W s₁ Γ σ₁ D os s' := by
  have e := F.same st S' hl
  subst e
  obtain ⟨h1, t1, e1⟩ := F.step.same
  obtain ⟨h2, t2, e2⟩ := st.same
  refine ⟨F.vars.move (st.moves F.st.lists) List.prefix_rfl, S', ⟨⟨h2, t2, by rw [e2, e1]⟩, List.prefix_rfl, fun _ h1 h2 => absurd h1 h2, fun b o hb q => ?_⟩, F.own, F.accNew, F.base1⟩
  refine st.keep b o (fun hm => ?_) (F.step.keep b o hb q)
  rcases List.mem_append.mp hm with h | h
  · exact hb h
  · rw [List.mem_singleton.mp h, F.accNew] at q; cases q

theorem Cf.weaken (F : Cf c cenv rsc W s₁ Γ σ D os s) (h : ∀ x b, Γ'.lookup x = some b → Γ.lookup x = some b) : Cf c cenv rsc W s₁ Γ' σ D os s := by
  obtain ⟨m, cm, hn, hc, hg⟩ := F.vars.frame
  exact { F with vars := { F.vars with frame := ⟨m, cm, hn, hc, fun x b e => hg x b (h x b e)⟩ } }

/-- a store into the comprehension's own name -/
theorem Cf.store (F : Cf c cenv rsc W s₁ Γ σ D os s) (hl : rsc.names.lookup x = some .local) (rv : RepB (W ++ [D]) s.heap v b) {A : Around} {Q : Unit → Shared → Prop} {E : Value → Shared → Prop}
    (h : ∀ h' tk, NKeep s.heap h' → Cf c cenv rsc W s₁ ((x, b) :: Γ) σ D os { s with heap := h', toks := tk } → Q () { s with heap := h', toks := tk }) : wpAny c.M A (storeName cenv x v) Q E s := by
  obtain ⟨m, cm, hn, hc, hg⟩ := F.vars.frame
  have hk : cenv.scope.kind = .function := by rw [F.vars.scope]; exact F.vars.kind
  obtain ⟨hh, tk0, hs0⟩ := F.step.same
  refine wpAny_storeName_local (by rw [F.vars.kindOf, hl]) hn (fun h' hn' hs' => ?_) (by rw [hk]; rfl)
  have k := SeqKeep.of_ns hn hs'
  have up : ∀ b o, s₁.heap.get? b = some o → s.heap.get? b = some o → h'.get? b = some o := fun b o e1 e2 => (hs'.2 b fun hb => by rw [hb, F.own] at e1; cases e1).trans e2
  refine h h' _ (NKeep.of_ns hn hs') ⟨⟨F.vars.scope, F.vars.kind, F.vars.glob, F.vars.blt, F.vars.apart, F.vars.has, F.vars.dist, ⟨_, cm, hn', fun z a e => ?_, fun z b' e => ?_⟩⟩, ?_, ?_, F.own, F.accNew, F.base1⟩
  · refine (hc z a e).sameBut hs' fun ha => ?_
    obtain ⟨o, q1, q2⟩ := hc z a e
    obtain ⟨o', es, ep, q3, q4, _⟩ := hn
    rw [ha, q3] at q1; cases q1; rw [q4] at q2; cases q2
  · rw [List.lookup_cons] at e
    by_cases hy : z = x
    · subst hy
      rw [beq_self_eq_true] at e; cases e
      refine ⟨v, ?_, rv.seqs k⟩
      unfold slotOf; rw [hl]; simp
    · have : (z == x) = false := by simpa using hy
      rw [this] at e
      obtain ⟨u, h1, h2⟩ := hg z b' e
      refine ⟨u, ?_, h2.seqs k⟩
      unfold slotOf at h1 ⊢
      revert h1
      cases rsc.names.lookup z with
      | none => exact id
      | some kd => cases kd <;> first | exact id | (intro h1; simp [hy]; exact h1)
  · exact F.st.seqs k fun b o e => up b o (F.base1 b o e) (F.st.base b o e)
  · exact ⟨by rw [hs0]; exact ⟨h', _, rfl⟩, F.step.pre, F.step.fresh, fun b o hb e => up b o e (F.step.keep b o hb e)⟩

theorem Cf.other (F : Cf c cenv rsc W s₁ Γ σ D os s) {I : Addr} {o : Obj} {fs : Array Value} (e : s.heap.get? I = some o) (d : o.data = .fields fs) (h0 : s₁.heap.get? I = none) {h' : Heap} {tk : Nat} (k : ∀ b o, b ≠ I → s.heap.get? b = some o → h'.get? b = some o) :
    Cf c cenv rsc W s₁ Γ σ D os { s with heap := h', toks := tk } := by
  have sk := SeqKeep.of_fields e d k
  obtain ⟨m, cm, hn, hc, hg⟩ := F.vars.frame
  obtain ⟨hh, tk0, hs0⟩ := F.step.same
  have base : ∀ b o, c.hb.get? b = some o → h'.get? b = some o := fun b o q => k b o (fun hb => by have := F.base1 b o q; rw [hb, h0] at this; cases this) (F.st.base b o q)
  refine ⟨⟨F.vars.scope, F.vars.kind, F.vars.glob, F.vars.blt, F.vars.apart, F.vars.has, F.vars.dist, ⟨m, cm, ?_, fun y a q => ?_, fun y b' q => ?_⟩⟩, F.st.seqs sk base, ⟨⟨h', tk, by rw [hs0]⟩, F.step.pre, F.step.fresh, fun b o hb q => k b o (fun hb' => by rw [hb', h0] at q; cases q) (F.step.keep b o hb q)⟩, F.own,
    F.accNew, F.base1⟩
  · refine hn.at' fun o' q => k _ o' (fun hb => ?_) q
    obtain ⟨o'', es, ep, g1, g2, _⟩ := hn
    rw [hb, e] at g1; cases g1; rw [d] at g2; cases g2
  · obtain ⟨o', g1, g2⟩ := hc y a q
    exact ⟨o', k a o' (fun hb => by rw [hb, e] at g1; cases g1; rw [d] at g2; cases g2) g1, g2⟩
  · obtain ⟨u, h1, h2⟩ := hg y b' q
    exact ⟨u, h1, h2.seqs sk⟩

/-- one more in the list that it fills -/
theorem Cf.push (F : Cf c cenv rsc W s₁ Γ σ D os s) (rv : Rep (W ++ [D]) s.heap v d) (hz : os.length ≤ 1000000) {A : Around} {Q : Value → Shared → Prop} {E : Value → Shared → Prop}
    (h : ∀ h', (∀ b o, b ≠ D → s.heap.get? b = some o → h'.get? b = some o) → Cf c cenv rsc W s₁ Γ σ D (os ++ [d]) { s with heap := h' } → Q .none { s with heap := h' }) : wpAny c.M A (call (.builtin "list.append") [.ref D, v]) Q E s := by
  have hlen : W.length = σ.length := by have := F.st.len; simpa using this
  obtain ⟨a, vs, m, h1, e, r⟩ := F.st.cell σ.length os (by simp)
  have ha : a = D := by rw [← hlen] at h1; simpa using h1.symm
  subst ha
  refine wpAny_list_append_plain ⟨m, e⟩ (fun h' hl hs => ?_) (by rw [List.size_toArray, r.length]; simp only [sizeLine]; omega)
  obtain ⟨m', e'⟩ := hl
  have e'' : h'.get? a = some (lObj (vs ++ [v]) m') := by rw [e']; simp [lObj]
  obtain ⟨st3, S3⟩ := F.st.setCell (tk := s.toks) h1 e hs e'' (r.append (.cons rv .nil)) (by simp)
  have hset : (σ ++ [os]).set σ.length (os ++ [d]) = σ ++ [os ++ [d]] := by
    rw [List.set_append_right _ _ (Nat.le_refl _)]; simp
  rw [hset] at S3
  refine h h' (fun b o hb q => (hs.2 b hb).trans q) ⟨F.vars.move (st3.moves F.st.lists) List.prefix_rfl, S3, ?_, F.own, F.accNew, F.base1⟩
  obtain ⟨h1', t1, e1⟩ := F.step.same
  exact ⟨⟨h', s.toks, by rw [e1]⟩, List.prefix_rfl, fun _ h1 h2 => absurd h1 h2, fun b o hb q => (hs.2 b (fun q' => by rw [q', F.accNew] at q; cases q)).trans (F.step.keep b o hb q)⟩
end
section
variable {c : Cx} {n : Nat} {sc rsc : Scope} {Γ Γ' : Gam} {σ σ₁ σ₂ σ₃ σ' : Sto} {env cenv : Env} {W₁ W₀ W W' : List Addr} {s₁ s₀ s s' : Shared} {b : B} {v : Value} {x y : Str} {e l r iter iter2 t elt : Expr} {pos apos p p1 p2 np : Pos} {k : Nat} {i : Nat} {ds es os os' : List PyData} {d : PyData} {ifs : List Expr} {D I : Addr} {gens : List Comprehension} {scope : Scope} {depth : Nat} {A : Around} {fp : List Addr} {P : Nat → Value → Prop} {T : Nat → Heap → Prop} {vs : List Value} {R : Result → Shared → Prop}

/-- what a walk's objects are while it goes -/
structure Wlk (c : Cx) (X : List Addr) (h : Heap) (I : Addr) (fp : List Addr) (T : Nat → Heap → Prop) (vs : List Value) (ds : List PyData) (i : Nat) : Prop where
  at_ : T i h
  out : ∀ b ∈ fp, b ∉ X
  src : ∀ b ∈ fp, b ≠ I → ∃ o xs n, h.get? b = some o ∧ o.data = .seq xs n
  rep : RepAll X h vs ds

theorem tests_any {Q : Bool → Shared → Prop} {E : Value → Shared → Prop} {q : Bool} (h : Tsts c n sc Γ σ ifs q σ₁) (Rm : Room n A) (V : Vars W env sc Γ s.heap) (S : St c W σ s) (hQ : ∀ s' W', Step W W' s s' → St c W' σ₁ s' → Q q s') :
    wpAny c.M A (forIn ifs true fun c r => if r = true then do let ok ← isTrue c env (eval c env); pure (ForInStep.yield ok) else pure (ForInStep.yield r)) Q E s := by
  rcases h with ⟨rfl, rfl, rfl⟩ | ⟨t, rfl, ht⟩
  · exact wpAny_tests_nil (hQ s W (Step.refl _ _) S)
  · exact wpAny_tests_one (ht.run A env s W _ _ Rm V S hQ)

theorem C1.split {ds : List PyData} (h : C1 c n sc x ifs elt Γ ds σ os σ') :
    match ds with
    | [] => os = [] ∧ σ' = σ
    | d :: ds => (∃ o os₁ σ₁ σ₂, os = o :: os₁ ∧ (∀ τ, Tsts c n sc ((x, .val d) :: Γ) (σ ++ [τ]) ifs true (σ₁ ++ [τ])) ∧ (∀ τ, Ev c n sc ((x, .val d) :: Γ) (σ₁ ++ [τ]) elt (.val o) (σ₂ ++ [τ])) ∧ σ₁.length = σ.length ∧ σ₂.length = σ.length ∧ C1 c n sc x ifs elt Γ ds σ₂ os₁ σ') ∨
        (∃ σ₁, (∀ τ, Tsts c n sc ((x, .val d) :: Γ) (σ ++ [τ]) ifs false (σ₁ ++ [τ])) ∧ σ₁.length = σ.length ∧ C1 c n sc x ifs elt Γ ds σ₁ os σ') := by
  cases h with
  | nil => exact ⟨rfl, rfl⟩
  | cons h1 h2 h3 h4 h5 => exact .inl ⟨_, _, _, _, rfl, h1, h2, h3, h4, h5⟩
  | skip h1 h2 h3 => exact .inr ⟨_, h1, h2, h3⟩

theorem weak_tail {Γ : Gam} {x : Str} {b b' : B} : ∀ y u, ((x, b') :: Γ).lookup y = some u → ((x, b') :: (x, b) :: Γ).lookup y = some u := by
  intro y u h
  rw [List.lookup_cons] at h ⊢
  split at h
  · exact h
  · rename_i hy
    rw [List.lookup_cons, hy]; exact h

theorem Wlk.plain {X : List Addr} {h h₁ : Heap} (fields : ∀ i h, T i h → ∃ o fs, h.get? I = some o ∧ o.data = .fields fs) (Wl : Wlk c X h I fp T vs ds i) (hT₁ : T (i + 1) h₁) (k₁ : ∀ b o, b ≠ I → h.get? b = some o → h₁.get? b = some o) :
    ∀ b ∈ fp, ∃ o, h₁.get? b = some o ∧ Plain o := plain_of Wl.src (fields _ _ hT₁) k₁
theorem Wlk.turn {X : List Addr} {h h₁ h₂ : Heap} (Wk : Walks PG c.w A I fp [I] ds.length P T) (fields : ∀ i h, T i h → ∃ o fs, h.get? I = some o ∧ o.data = .fields fs) (Wl : Wlk c X h I fp T vs ds i) (hT₁ : T (i + 1) h₁) (k₁ : ∀ b o, b ≠ I → h.get? b = some o → h₁.get? b = some o)
    (hr₁ : RepAll X h₁ vs ds) (sk₂ : NKeep h₁ h₂) : Wlk c X h₂ I fp T vs ds (i + 1) := by
  have st₂ := plain_keep (Wl.plain fields hT₁ k₁) sk₂
  refine ⟨Wk.frame _ _ _ hT₁ st₂, Wl.out, fun b hb hne => ?_, hr₁.seqs sk₂.seq⟩
  obtain ⟨o', xs, m', g1, g2⟩ := Wl.src b hb hne
  exact ⟨o', xs, m', st₂ b hb _ (k₁ b o' hne g1), g2⟩
theorem Wlk.move {X : List Addr} {h h' : Heap} (Wk : Walks PG c.w A I fp [I] ds.length P T) (M : Moves X X h h') (w : Wlk c X h I fp T vs ds i) : Wlk c X h' I fp T vs ds i :=
  ⟨Wk.frame _ _ _ w.at_ fun b hb o q => M.keep b o (w.out b hb) q, w.out, fun b hb hne => by
    obtain ⟨o', xs, m', g1, g2⟩ := w.src b hb hne
    exact ⟨o', xs, m', M.keep b _ (w.out b hb) g1, g2⟩, w.rep.move M⟩
theorem Moves.but {X : List Addr} {h h' : Heap} (hD : D ∈ X) (l : AllLists X h) (kp : ∀ b o, b ≠ D → h.get? b = some o → h'.get? b = some o) : Moves X X h h' :=
  { lists := l, fresh := fun _ h1 h2 => absurd h1 h2, keep := fun b o hb q => kp b o (fun e => hb (e ▸ hD)) q }
theorem tail_keep {Γ : Gam} {x : Str} {b : B} (hx0 : Γ.lookup x = none) : ∀ y u, Γ.lookup y = some u → ((x, b) :: Γ : Gam).lookup y = some u := by
  intro y u e
  rw [List.lookup_cons]
  split
  · rename_i hy
    rw [show y = x by simpa using hy, hx0] at e; cases e
  · exact e
theorem not_head {b : Addr} (s : b ≠ I) : b ∉ [I] := by simpa using s
theorem codeLast (hturn : ∀ it acc env, compTurn (.ListComp elt gens scope pos) depth it acc env = lastTurn (.Name x p) iter ifs elt (.ListComp elt gens scope pos) depth it acc env)
    (Rm : Room n A) (hl : rsc.names.lookup x = some .local) (hx0 : Γ.lookup x = none) (Wk : Walks PG c.w A I fp [I] ds.length P T)
    (item : ∀ i v, i < ds.length → P i v → ∃ d, ds[i]? = some d ∧ ∀ (W : List Addr) (h : Heap), RepAll W h vs ds → Rep W h v d) (fields : ∀ i h, T i h → ∃ o fs, h.get? I = some o ∧ o.data = .fields fs)
    (hI0 : s₁.heap.get? I = none) :
    ∀ (m i : Nat) (σ : Sto) (os os' : List PyData) (s : Shared), m = ds.length - i → i ≤ ds.length → Cf c cenv rsc W s₁ Γ σ D os s → Wlk c (W ++ [D]) s.heap I fp T vs ds i → C1 c n rsc x ifs elt Γ (ds.drop i) σ os' σ' → os.length + os'.length ≤ 1000000 →
      (∀ s', Cf c cenv rsc W s₁ Γ σ' D (os ++ os') s' → R (.ok .next) s') → codeAny c.M A (.compLoop (.ListComp elt gens scope pos) depth (.ref I) (.ref D) cenv) R s := by
  intro m
  induction m with
  | zero =>
    intro i σ os os' s hm hi F Wl hC hlen hR
    have hin : i = ds.length := by omega
    subst hin
    rw [List.drop_length] at hC
    obtain ⟨rfl, rfl⟩ := hC.split
    obtain ⟨oI, fs, hoI, hdI⟩ := fields _ _ Wl.at_
    refine codeAny_of_tree ?_
    show wpAny _ A ((compTurn (.ListComp elt gens scope pos) depth (.ref I) (.ref D) cenv).onRaise (fun x => do noteFrame x cenv; theTreesLotGoes x)) _ _ s
    refine wpAny_noted ?_
    rw [hturn]
    unfold lastTurn
    refine wpAny_bind (wpAny_standAt (wpAny_bind (Wk.done s _ _ Wl.at_ fun h₁ tk₁ hk₁ => ?_)))
    have k₁ : ∀ b o, b ≠ I → s.heap.get? b = some o → h₁.get? b = some o := fun b o hb q => hk₁ b o (not_head hb) q
    refine wpAny_pure (hR _ ?_)
    rw [List.append_nil]
    exact F.other (tk := tk₁) hoI hdI hI0 k₁
  | succ m ih =>
    intro i σ os os' s hm hi F Wl hC hlen hR
    have hlt : i < ds.length := by omega
    obtain ⟨oI, fs, hoI, hdI⟩ := fields _ _ Wl.at_
    refine codeAny_of_tree ?_
    show wpAny _ A ((compTurn (.ListComp elt gens scope pos) depth (.ref I) (.ref D) cenv).onRaise (fun x => do noteFrame x cenv; theTreesLotGoes x)) _ _ s
    refine wpAny_noted ?_
    rw [hturn]
    unfold lastTurn
    refine wpAny_bind (wpAny_standAt (wpAny_bind (Wk.item i s _ _ hlt Wl.at_ fun v h₁ tk₁ hP hT₁ hk₁ => ?_)))
    have k₁ : ∀ b o, b ≠ I → s.heap.get? b = some o → h₁.get? b = some o := fun b o hb q => hk₁ b o (not_head hb) q
    have F₁ := F.other (tk := tk₁) hoI hdI hI0 k₁
    have sk₁ := SeqKeep.of_fields hoI hdI k₁
    have hr₁ : RepAll (W ++ [D]) h₁ vs ds := Wl.rep.seqs sk₁
    obtain ⟨d, hd, hrep⟩ := item i v hlt hP
    have rv : RepB (W ++ [D]) h₁ v (.val d) := hrep _ h₁ hr₁
    rw [drop_at hlt hd] at hC
    refine wpAny_bind (wpAny_of_eq (rfl : letOwnedTupleGo (.Name x p) (.ref I) v = pure ()) ?_)
    refine wpAny_bind (wpAny_assign_Name (F₁.store hl rv fun h₂ tk₂ sk₂ F₂ => ?_))
    have W₂ := Wl.turn Wk fields hT₁ k₁ hr₁ sk₂
    rcases hC.split with ⟨o, os₁, σa, σb, rfl, hte, hev, la, lb, hC'⟩ | ⟨σa, hte, la, hC'⟩
    · refine wpAny_bind (tests_any (hte os) Rm F₂.vars F₂.st fun s₃ W₃ st₃ S₃ => ?_)
      have e3 := F₂.same st₃ S₃ la
      subst e3
      have F₃ := F₂.move st₃ S₃ la
      have Wl₃ := W₂.move Wk (st₃.moves F₂.st.lists)
      simp only [if_true]
      refine wpAny_bind (wpAny_bind ((hev os).run A cenv s₃ _ _ _ Rm F₃.vars F₃.st fun u s₄ W₄ st₄ S₄ ru => ?_))
      have e4 := F₃.same st₄ S₄ (lb.trans la.symm)
      subst e4
      have F₄ := F₃.move st₄ S₄ (lb.trans la.symm)
      have Wl₄ := Wl₃.move Wk (st₄.moves F₃.st.lists)
      refine wpAny_bind (F₄.push ru (by rw [List.length_cons] at hlen; omega) fun h₅ kp₅ F₅ => wpAny_pure (wpAny_pure ⟨rfl, ?_⟩))
      refine ih (i + 1) σb (os ++ [o]) os₁ _ (by omega) hlt (F₅.weaken (tail_keep hx0)) (Wl₄.move Wk (Moves.but (by simp) F₄.st.lists kp₅)) hC' (by rw [List.length_cons] at hlen; rw [List.length_append, List.length_singleton]; omega) fun s' F' => hR s' ?_
      rw [List.append_assoc] at F'
      exact F'
    · refine wpAny_bind (tests_any (hte os) Rm F₂.vars F₂.st fun s₃ W₃ st₃ S₃ => ?_)
      have e3 := F₂.same st₃ S₃ la
      subst e3
      have F₃ := F₂.move st₃ S₃ la
      have Wl₃ := W₂.move Wk (st₃.moves F₂.st.lists)
      simp only [Bool.false_eq_true, if_false]
      exact wpAny_pure ⟨rfl, ih (i + 1) σa os os' _ (by omega) hlt (F₃.weaken (tail_keep hx0)) Wl₃ hC' hlen hR⟩
end
mutual
theorem Rep.off {W : List Addr} {h h' : Heap} (k : ∀ b vs n, b ∉ W → h.get? b = some (lObj vs n) → h'.get? b = some (lObj vs n)) (kt : ∀ b vs n, h.get? b = some (tObj vs n) → h'.get? b = some (tObj vs n)) : ∀ {v : Value} {d : PyData}, Rep W h v d → Rep W h' v d
  | _, _, .none => .none
  | _, _, .bool b => .bool b
  | _, _, .int i t => .int i t
  | _, _, .str x t q => .str x t q
  | _, _, .list e hn r => .list (k _ _ _ hn e) hn (RepAll.off k kt r)
  | _, _, .tuple e r => .tuple (kt _ _ _ e) (RepAll.off k kt r)
theorem RepAll.off {W : List Addr} {h h' : Heap} (k : ∀ b vs n, b ∉ W → h.get? b = some (lObj vs n) → h'.get? b = some (lObj vs n)) (kt : ∀ b vs n, h.get? b = some (tObj vs n) → h'.get? b = some (tObj vs n)) : ∀ {vs : List Value} {ds : List PyData}, RepAll W h vs ds → RepAll W h' vs ds
  | _, _, .nil => .nil
  | _, _, .cons r rs => .cons (Rep.off k kt r) (RepAll.off k kt rs)
end

section
variable {c : Cx} {n : Nat} {sc rsc : Scope} {Γ Γ' : Gam} {σ σ₁ σ₂ σ₃ σ' : Sto} {env cenv : Env} {W₁ W₀ W W' : List Addr} {s₁ s₀ s s' : Shared} {b : B} {v : Value} {x y : Str} {e l r iter iter2 t elt : Expr} {pos apos p p1 p2 np : Pos} {k : Nat} {i : Nat} {ds es os os' : List PyData} {d : PyData} {ifs : List Expr} {D I : Addr} {gens : List Comprehension} {scope : Scope} {depth : Nat} {A : Around} {fp : List Addr} {P : Nat → Value → Prop} {T : Nat → Heap → Prop} {vs : List Value} {R : Result → Shared → Prop} {target : Expr}

theorem codeStart {E : Result → Shared → Prop} (h0 : codeAny c.M A (.compLoop (.ListComp elt gens scope pos) depth (.ref I) (.ref D) cenv) R s)
    (hg : ((clausesOf (.ListComp elt gens scope pos))[depth]?).elim false (·.is_async != 0) = false) (hs : ∀ (Q : Value → Shared → Prop) E, Q (.ref I) s → wpAny c.M A (pyIter (.ref I)) Q E s) :
    codeAny c.M A (.compStart (.ListComp elt gens scope pos) depth (.ref I) (.ref D) cenv) R s := by
  refine codeAny_of_tree ?_
  show wpAny _ _ ((compStart (.ListComp elt gens scope pos) depth (.ref I) (.ref D) cenv).onRaise (fun x => do noteFrame x cenv; standAt theWindowsPlace)) _ _ s
  refine wpAny_notedAt ?_
  unfold compStart
  rw [hg]
  show wpAny _ _ (ask >>= _) _ _ s
  refine wpAny_bind (wpAny_askSetting (wpAny_ite ?_))
  split
  · first
      | exact wpAny_bind (wpAny_pure (wpAny_pure (And.intro rfl h0)))
      | exact wpAny_pure (And.intro rfl h0)
  · refine wpAny_bind (wpAny_rule ?_)
    cases (clausesOf (.ListComp elt gens scope pos))[depth]? with
    | none => exact wpAny_bind (hs _ _ (wpAny_pure (And.intro rfl h0)))
    | some g => exact wpAny_bind (wpAny_standAt (wpAny_bind (hs _ _ (wpAny_pure (And.intro rfl h0)))))

inductive C2 (c : Cx) (n : Nat) (sc : Scope) (x : Str) (iter2 : Expr) (y : Str) (ifs : List Expr) (elt : Expr) (Γ : Gam) : List PyData → Sto → List PyData → Sto → Prop
  | nil {σ : Sto} : C2 c n sc x iter2 y ifs elt Γ [] σ [] σ
  | cons {d : PyData} {ds ds2 os₁ os₂ : List PyData} {σ σ₁ σ₂ σ₃ : Sto} : (∀ τ, EvIt c n sc ((x, .val d) :: Γ) (σ ++ [τ]) iter2 ds2 (σ₁ ++ [τ])) → σ₁.length = σ.length → C1 c n sc y ifs elt ((x, .val d) :: Γ) ds2 σ₁ os₁ σ₂ →
      C2 c n sc x iter2 y ifs elt Γ ds σ₂ os₂ σ₃ → C2 c n sc x iter2 y ifs elt Γ (d :: ds) σ (os₁ ++ os₂) σ₃

theorem C2.length {c : Cx} {n : Nat} {sc : Scope} {x y : Str} {ifs : List Expr} {iter2 elt : Expr} {Γ : Gam} {ds os : List PyData} {σ σ' : Sto} (h : C2 c n sc x iter2 y ifs elt Γ ds σ os σ') : σ'.length = σ.length := by
  induction h with
  | nil => rfl
  | cons _ h2 h3 _ ih => exact ih.trans (h3.length.1.trans h2)

theorem C2.split {ds : List PyData} (h : C2 c n sc x iter2 y ifs elt Γ ds σ os σ') :
    match ds with
    | [] => os = [] ∧ σ' = σ
    | d :: ds => ∃ ds2 os₁ os₂ σ₁ σ₂, os = os₁ ++ os₂ ∧ (∀ τ, EvIt c n sc ((x, .val d) :: Γ) (σ ++ [τ]) iter2 ds2 (σ₁ ++ [τ])) ∧ σ₁.length = σ.length ∧ C1 c n sc y ifs elt ((x, .val d) :: Γ) ds2 σ₁ os₁ σ₂ ∧ C2 c n sc x iter2 y ifs elt Γ ds σ₂ os₂ σ' := by
  cases h with
  | nil => exact ⟨rfl, rfl⟩
  | cons h1 h2 h3 h4 => exact ⟨_, _, _, _, _, rfl, h1, h2, h3, h4⟩

theorem hide_keep {h : Heap} {l : List Addr} {b : Addr} {o : Obj} (e : h.get? b = some o) (hn : b ∉ l) : (hideAll h l).get? b = some o := hideAll_get _ e hn

theorem codeOuter {e2 : Expr} {px py : Pos} (he2 : ∀ (x : Value), foldedSetIterable iter2 cenv x = pure x)
    (Rm : Room n A) (hl : rsc.names.lookup x = some .local) (hx0 : Γ.lookup x = none) (hl2 : rsc.names.lookup y = some .local) (hy0 : Γ.lookup y = none) (hxy : (y == x) = false) (Wk : Walks PG c.w A I fp [I] ds.length P T)
    (item : ∀ i v, i < ds.length → P i v → ∃ d, ds[i]? = some d ∧ ∀ (W : List Addr) (h : Heap), RepAll W h vs ds → Rep W h v d) (fields : ∀ i h, T i h → ∃ o fs, h.get? I = some o ∧ o.data = .fields fs)
    (hI0 : s₁.heap.get? I = none) :
    ∀ (m i : Nat) (σ : Sto) (os os' : List PyData) (s : Shared), m = ds.length - i → i ≤ ds.length → Cf c cenv rsc W s₁ Γ σ D os s → Wlk c (W ++ [D]) s.heap I fp T vs ds i → C2 c n rsc x iter2 y ifs elt Γ (ds.drop i) σ os' σ' → os.length + os'.length ≤ 1000000 →
      (∀ s', Cf c cenv rsc W s₁ Γ σ' D (os ++ os') s' → R (.ok .next) s') → codeAny c.M A (.compLoop (.ListComp elt [⟨.Name x px, iter, [], 0⟩, ⟨.Name y py, iter2, ifs, 0⟩] scope pos) 0 (.ref I) (.ref D) cenv) R s := by
  intro m
  induction m with
  | zero =>
    intro i σ os os' s hm hi F Wl hC hlen hR
    have hin : i = ds.length := by omega
    subst hin
    rw [List.drop_length] at hC
    obtain ⟨rfl, rfl⟩ := hC.split
    obtain ⟨oI, fs, hoI, hdI⟩ := fields _ _ Wl.at_
    refine codeAny_of_tree ?_
    show wpAny _ A ((compTurn (.ListComp elt [⟨.Name x px, iter, [], 0⟩, ⟨.Name y py, iter2, ifs, 0⟩] scope pos) 0 (.ref I) (.ref D) cenv).onRaise (fun x => do noteFrame x cenv; theTreesLotGoes x)) _ _ s
    refine wpAny_noted ?_
    rw [compTurn_outer]
    unfold outerTurn
    refine wpAny_bind (wpAny_standAt (wpAny_bind (Wk.done s _ _ Wl.at_ fun h₁ tk₁ hk₁ => ?_)))
    have k₁ : ∀ b o, b ≠ I → s.heap.get? b = some o → h₁.get? b = some o := fun b o hb q => hk₁ b o (not_head hb) q
    refine wpAny_pure (hR _ ?_)
    rw [List.append_nil]
    exact F.other (tk := tk₁) hoI hdI hI0 k₁
  | succ m ih =>
    intro i σ os os' s hm hi F Wl hC hlen hR
    have hlt : i < ds.length := by omega
    obtain ⟨oI, fs, hoI, hdI⟩ := fields _ _ Wl.at_
    refine codeAny_of_tree ?_
    show wpAny _ A ((compTurn (.ListComp elt [⟨.Name x px, iter, [], 0⟩, ⟨.Name y py, iter2, ifs, 0⟩] scope pos) 0 (.ref I) (.ref D) cenv).onRaise (fun x => do noteFrame x cenv; theTreesLotGoes x)) _ _ s
    refine wpAny_noted ?_
    rw [compTurn_outer]
    unfold outerTurn
    refine wpAny_bind (wpAny_standAt (wpAny_bind (Wk.item i s _ _ hlt Wl.at_ fun v h₁ tk₁ hP hT₁ hk₁ => ?_)))
    have k₁ : ∀ b o, b ≠ I → s.heap.get? b = some o → h₁.get? b = some o := fun b o hb q => hk₁ b o (not_head hb) q
    have F₁ := F.other (tk := tk₁) hoI hdI hI0 k₁
    have sk₁ := SeqKeep.of_fields hoI hdI k₁
    have hr₁ : RepAll (W ++ [D]) h₁ vs ds := Wl.rep.seqs sk₁
    obtain ⟨d, hd, hrep⟩ := item i v hlt hP
    have rv : RepB (W ++ [D]) h₁ v (.val d) := hrep _ h₁ hr₁
    rw [drop_at hlt hd] at hC
    obtain ⟨ds2, os₁, os₂, σa, σb, rfl, hev, la, hC1, hC2⟩ := hC.split
    refine wpAny_bind (wpAny_of_eq (rfl : letOwnedTupleGo (.Name x px) (.ref I) v = pure ()) ?_)
    refine wpAny_bind (wpAny_assign_Name (F₁.store hl rv fun h₂ tk₂ sk₂ F₂ => ?_))
    have W₂ := Wl.turn Wk fields hT₁ k₁ hr₁ sk₂
    refine wpAny_bind (wpAny_mono ((hev os).run A cenv { s with heap := h₂, toks := tk₂ } (W ++ [D]) (fun it s₃ => wpAny c.M A (runOwn (.compStart (.ListComp elt [⟨.Name x px, iter, [], 0⟩, ⟨.Name y py, iter2, ifs, 0⟩] scope pos) 1 it (.ref D) cenv) cenv >>= fun _ =>
        again (.compLoop (.ListComp elt [⟨.Name x px, iter, [], 0⟩, ⟨.Name y py, iter2, ifs, 0⟩] scope pos) 0 (.ref I) (.ref D) cenv)) _ _ s₃) _ Rm F₂.vars F₂.st fun I2 fp2 P2 T2 vs2 s₃ W₃ st₃ S₃ hI2 It2 => ?_)
      (fun x₁ s₁ hx => wpAny_bind (wpAny_standAt (wpAny_bind (wpAny_of_eq (he2 x₁) (wpAny_bind (wpAny_holding hx)))))) fun _ _ e => e)
    have e3 := F₂.same st₃ S₃ la
    subst e3
    have F₃ := F₂.move st₃ S₃ la
    -- the walk of the first generator stands
    have hne2 : ∀ b ∈ fp, b ≠ I2 := fun b hb e => by
      obtain ⟨o', z1, _⟩ := plain_of W₂.src (fields _ _ W₂.at_) (fun _ _ _ e => e) b hb
      rw [e, show h₂.get? I2 = none from hI2] at z1; cases z1
    have Wl₃ := W₂.move Wk (st₃.moves F₂.st.lists)
    have hI2s : s₁.heap.get? I2 = none := by
      cases q : s₁.heap.get? I2 with
      | none => rfl
      | some o =>
        by_cases hw : I2 ∈ W
        · obtain ⟨us, m', e⟩ := F₂.st.lists I2 (List.mem_append.mpr (.inl hw))
          rw [show h₂.get? I2 = none from hI2] at e; cases e
        · have := F₂.step.keep I2 o hw q
          rw [show h₂.get? I2 = none from hI2] at this; cases this
    -- the second generator's walk, with what it may change taken away
    have hb0 : ∀ b o, s₁.heap.get? b = some o → s₃.heap.get? b = some o → (hideAll s₃.heap [cenv.locals, D, I2]).get? b = some o := fun b o q q' => by
      refine hideAll_get _ q' fun hm => ?_
      simp only [List.mem_cons, List.not_mem_nil, or_false] at hm
      rcases hm with rfl | rfl | rfl
      · rw [F₃.own] at q; cases q
      · rw [F₃.accNew] at q; cases q
      · rw [hI2s] at q; cases q
    have G₃ : Cf c cenv rsc W { s₃ with heap := hideAll s₃.heap [cenv.locals, D, I2] } ((x, .val d) :: Γ) σa D os s₃ :=
      ⟨F₃.vars, F₃.st, ⟨⟨s₃.heap, s₃.toks, rfl⟩, List.prefix_rfl, fun _ h1 h2 => absurd h1 h2, fun b o _ e => of_hideAll _ e⟩, hideAll_none _ (by simp), hideAll_none _ (by simp),
        fun b o q => hb0 b o (F₃.base1 b o q) (F₃.st.base b o q)⟩
    have hy0' : List.lookup y ((x, B.val d) :: Γ) = none := by rw [List.lookup_cons, hxy]; exact hy0
    refine wpAny_bind (wpAny_runOwn (codeStart (E := R) ?_ rfl fun Q E hq => (It2.walk A Rm.handled).self 0 s₃ Q E It2.start hq))
    refine codeLast (depth := 1) (s₁ := { s₃ with heap := hideAll s₃.heap [cenv.locals, D, I2] }) (fun it acc env => compTurn_two ..) Rm hl2 hy0' (It2.walk A Rm.handled) It2.item It2.fields (hideAll_none _ (by simp)) ds2.length 0 σa os os₁ s₃ rfl (Nat.zero_le _) G₃
      ⟨It2.start, It2.out, It2.src, It2.rep⟩ hC1 (by rw [List.length_append] at hlen; omega) fun s₄ F₄ => ?_
    refine wpAny_pure ⟨rfl, ?_⟩
    -- back to the first generator
    obtain ⟨q1, q2, q3⟩ := F₃.step.same
    obtain ⟨g1, g2, g3⟩ := F₄.step.same
    have F₅ : Cf c cenv rsc W s₁ ((x, .val d) :: Γ) σb D (os ++ os₁) s₄ :=
      ⟨F₄.vars, F₄.st, ⟨⟨g1, g2, by rw [g3, q3]⟩, List.prefix_rfl, fun _ h1 h2 => absurd h1 h2, fun b o hb q => F₄.step.keep b o hb (hb0 b o q (F₃.step.keep b o hb q))⟩, F₃.own, F₃.accNew, F₃.base1⟩
    have kfp : ∀ b ∈ fp, ∀ o, (∀ es n, o.data ≠ .dict es n) → s₃.heap.get? b = some o → s₄.heap.get? b = some o := fun b hb o hd q => by
      have hbX := W₂.out b hb
      refine F₄.step.keep b o (fun hm => hbX (List.mem_append.mpr (.inl hm))) (hideAll_get _ q fun hm => ?_)
      simp only [List.mem_cons, List.not_mem_nil, or_false] at hm
      rcases hm with rfl | rfl | rfl
      · obtain ⟨m', cm, ⟨o', es, ep, z1, z2, _⟩, _⟩ := F₃.vars.frame
        rw [z1] at q; cases q; exact hd _ _ z2
      · exact hbX (by simp)
      · exact hne2 _ hb rfl
    have kfp2 : ∀ b ∈ fp, ∀ o, s₃.heap.get? b = some o → s₄.heap.get? b = some o := fun b hb o q => by
      obtain ⟨o', z1, z2⟩ := plain_of Wl₃.src (fields _ _ Wl₃.at_) (fun _ _ _ e => e) b hb
      rw [z1] at q; cases q
      exact kfp b hb _ z2.1 z1
    have Wl₄ : Wlk c (W ++ [D]) s₄.heap I fp T vs ds (i + 1) := by
      refine ⟨Wk.frame _ _ _ Wl₃.at_ kfp2, W₂.out, fun b hb hne => ?_, ?_⟩
      · obtain ⟨o', xs, m', z1, z2⟩ := Wl₃.src b hb hne
        exact ⟨o', xs, m', kfp2 b hb _ z1, z2⟩
      · obtain ⟨oI₃, fs₃, hoI₃, hdI₃⟩ := It2.fields _ _ It2.start
        obtain ⟨m', cm, ⟨o', es, ep, z1, z2, _⟩, _⟩ := F₃.vars.frame
        have nl : ∀ b o, b ≠ D → s₃.heap.get? b = some o → (∃ xs m, o.data = .seq xs m) → (hideAll s₃.heap [cenv.locals, D, I2]).get? b = some o := fun b o hbD q hd => by
          obtain ⟨xs, mm, hd⟩ := hd
          refine hideAll_get _ q fun hm => ?_
          simp only [List.mem_cons, List.not_mem_nil, or_false] at hm
          rcases hm with rfl | rfl | rfl
          · rw [z1] at q; cases q; rw [z2] at hd; cases hd
          · exact hbD rfl
          · rw [hoI₃] at q; cases q; rw [hdI₃] at hd; cases hd
        have hnt : ∀ b us mm, s₃.heap.get? b = some (tObj us mm) → b ∉ W ++ [D] := fun b us mm q hm => by
          obtain ⟨us', k', e'⟩ := F₃.st.lists b hm
          rw [q] at e'
          have := congrArg (fun o => o.map Obj.cls) e'
          simp [tObj, lObj] at this
        refine Wl₃.rep.off (fun b us mm hb q => ?_) fun b us mm q => ?_
        · exact F₄.step.keep b _ (fun hm => hb (List.mem_append.mpr (.inl hm))) (nl b _ (fun e => hb (by simp [e])) q ⟨_, _, rfl⟩)
        · exact F₄.step.keep b _ (fun hm => hnt b us mm q (List.mem_append.mpr (.inl hm))) (nl b _ (fun e => hnt b us mm q (by simp [e])) q ⟨_, _, rfl⟩)
    refine ih (i + 1) σb (os ++ os₁) os₂ s₄ (by omega) hlt (F₅.weaken (tail_keep hx0)) Wl₄ hC2 (by rw [List.length_append] at hlen ⊢; omega) fun s' F' => hR s' ?_
    rw [List.append_assoc] at F'
    exact F'
end
mutual
theorem Rep.fewer {W W' : List Addr} {h : Heap} (k : ∀ b ∈ W', b ∈ W) : ∀ {v : Value} {d : PyData}, Rep W h v d → Rep W' h v d
  | _, _, .none => .none
  | _, _, .bool b => .bool b
  | _, _, .int i t => .int i t
  | _, _, .str x t q => .str x t q
  | _, _, .list e hn r => .list e (fun hm => hn (k _ hm)) (RepAll.fewer k r)
  | _, _, .tuple e r => .tuple e (RepAll.fewer k r)
theorem RepAll.fewer {W W' : List Addr} {h : Heap} (k : ∀ b ∈ W', b ∈ W) : ∀ {vs : List Value} {ds : List PyData}, RepAll W h vs ds → RepAll W' h vs ds
  | _, _, .nil => .nil
  | _, _, .cons r rs => .cons (Rep.fewer k r) (RepAll.fewer k rs)
end

/-- the names of a comprehension, as it is run -/
noncomputable def relab (csc sc : Scope) : Scope := { csc with names := csc.names.map fun (n, k) => if (k == .free && sc.names.lookup n == some .cell) then (n, .cell) else (n, k) }

noncomputable def capt (csc sc : Scope) (Γ : Gam) : Gam := Γ.filter fun p => (relab csc sc).names.lookup p.1 == some .cell && sc.names.lookup p.1 == some .cell

noncomputable def compOk (csc sc : Scope) : Bool := decide (csc.names.map (·.1)).Nodup && csc.names.all fun p => p.2 != .cell && (p.2 != .free || sc.names.lookup p.1 == some .cell)

theorem lookup_filter {f : Str → Bool} {x : Str} : ∀ {Γ : Gam}, (Γ.filter fun p => f p.1).lookup x = if f x then Γ.lookup x else none
  | [] => by simp
  | (y, b) :: Γ => by
    rw [List.filter_cons]
    by_cases hy : x = y
    · subst hy
      cases hf : f x with
      | true => simp [hf]
      | false => simp only [hf, Bool.false_eq_true, if_false]; rw [lookup_filter, hf]; rfl
    · have hyx : (x == y) = false := by simpa using hy
      rw [List.lookup_cons, hyx]
      split
      · rw [List.lookup_cons, hyx]; exact lookup_filter
      · exact lookup_filter

theorem lookup_keys {α : Type} {f : Str → α} {x : Str} : ∀ {ks : List Str}, (ks.map fun k => (k, f k)).lookup x = if x ∈ ks then some (f x) else none
  | [] => by simp
  | k :: ks => by
    rw [List.map_cons, List.lookup_cons]
    by_cases hx : x = k
    · subst hx; simp
    · have : (x == k) = false := by simpa using hx
      rw [this, lookup_keys]
      simp [hx]

noncomputable def freeKeys (names : List (Str × NameKind)) : List Str := ((names.filter fun p => p.2 == .free).map (·.1)).reverse

theorem closure_loop {env : Env} : ∀ {names : List (Str × NameKind)} {acc : List (Str × Addr)}, (∀ p ∈ names, p.2 = .free → ∃ a, env.cells.lookup p.1 = some a) →
    (forIn names acc fun x r => match x with
      | (name, kind) => if (kind == .free) = true then do let a ← cellOf env name; pure PUnit.unit; pure (ForInStep.yield ((name, a) :: r)) else pure (ForInStep.yield r) : Sem (List (Str × Addr)))
      = pure (((freeKeys names).map fun k => (k, (env.cells.lookup k).getD 0)) ++ acc)
  | [], acc, _ => rfl
  | (x, k) :: names, acc, h => by
    have ih := fun acc => closure_loop (acc := acc) fun p hp => h p (.tail _ hp)
    rw [List.forIn_cons]
    by_cases hk : k = .free
    · subst hk
      obtain ⟨a, ha⟩ := h (x, .free) (.head _) rfl
      have e : cellOf env x = pure a := by unfold cellOf; simp only [] at ha ⊢; rw [ha]
      simp only [beq_self_eq_true, if_true, e, pure_bind]
      rw [ih]
      have hf : freeKeys ((x, NameKind.free) :: names) = freeKeys names ++ [x] := by simp [freeKeys]
      simp only [] at ha
      rw [hf, List.map_append, List.append_assoc]
      simp [ha]
    · have hk' : (k == NameKind.free) = false := by simpa using hk
      have hf : freeKeys ((x, k) :: names) = freeKeys names := by simp [freeKeys, hk]
      simp only [hk', Bool.false_eq_true, if_false, pure_bind]
      rw [ih, hf]

theorem closureFor_of {env : Env} {csc : Scope} (h : ∀ p ∈ csc.names, p.2 = .free → ∃ a, env.cells.lookup p.1 = some a) :
    closureFor csc env = pure ((freeKeys csc.names).map fun k => (k, (env.cells.lookup k).getD 0)) := by
  unfold closureFor
  have := closure_loop (acc := []) h
  rw [List.append_nil] at this
  simp only [] at this ⊢
  rw [← this]
  simp only [bind_pure]

theorem mem_freeKeys {names : List (Str × NameKind)} {x : Str} : x ∈ freeKeys names ↔ (x, NameKind.free) ∈ names := by
  unfold freeKeys
  rw [List.mem_reverse, List.mem_map]
  refine ⟨fun ⟨p, h1, h2⟩ => ?_, fun h => ⟨(x, .free), by simp [h], rfl⟩⟩
  obtain ⟨p1, p2⟩ := p
  rw [List.mem_filter] at h1
  obtain ⟨h1, h3⟩ := h1
  have : p2 = .free := by simpa using h3
  subst this; cases h2; exact h1

theorem nodup_freeKeys {names : List (Str × NameKind)} (h : (names.map (·.1)).Nodup) : (freeKeys names).Nodup := by
  unfold freeKeys
  exact List.pairwise_reverse.mpr ((List.Nodup.sublist (List.Sublist.map _ List.filter_sublist) h).imp fun h e => h e.symm)

section
variable {c : Cx} {n : Nat} {sc csc : Scope} {Γ Γ' : Gam} {σ σ₁ σ₂ σ₃ σ' : Sto} {env cenv : Env} {W₁ W₀ W W' : List Addr} {s₁ s₀ s s' : Shared} {b : B} {v : Value} {x y : Str} {e l r iter iter2 t elt : Expr} {pos apos p p1 p2 np px py : Pos} {k : Nat} {i : Nat} {ds es os os' : List PyData} {d : PyData} {ifs : List Expr} {D I C : Addr} {gens : List Comprehension} {depth : Nat} {A : Around}

theorem relabel_relab (hs : env.scope = sc) (hk : sc.kind = .function) : relabel csc env = relab csc sc := by
  unfold relabel relab Env.kindOf
  rw [hs, hk]
  simp

theorem relab_cell (ok : compOk csc sc = true) (h : (relab csc sc).names.lookup x = some .cell) : x ∈ freeKeys csc.names := by
  unfold compOk at ok
  rw [Bool.and_eq_true, List.all_eq_true] at ok
  have hm := mem_of_lookup h
  unfold relab at hm
  obtain ⟨⟨y, k⟩, h1, h2⟩ := List.mem_map.mp hm
  have h3 := ok.2 _ h1
  simp only [Bool.and_eq_true] at h3
  rw [mem_freeKeys]
  simp only [] at h2
  split at h2
  · rename_i hc
    rw [Bool.and_eq_true] at hc
    cases h2
    have : k = .free := by simpa using hc.1
    subst this; exact h1
  · cases h2
    have := h3.1
    simp at this

theorem freeKey_cell (ok : compOk csc sc = true) (h : x ∈ freeKeys csc.names) : sc.names.lookup x = some .cell := by
  unfold compOk at ok
  rw [Bool.and_eq_true, List.all_eq_true] at ok
  have h3 := ok.2 _ (mem_freeKeys.mp h)
  simpa using h3

noncomputable def closAddrs (csc : Scope) (env : Env) : List (Str × Addr) := (freeKeys csc.names).map fun k => (k, (env.cells.lookup k).getD 0)

theorem closAddrs_lookup (V : Vars W env sc Γ s.heap) (ok : compOk csc sc = true) {a : Addr} (h : (closAddrs csc env).lookup x = some a) : x ∈ freeKeys csc.names ∧ env.cells.lookup x = some a := by
  unfold closAddrs at h
  rw [lookup_keys] at h
  split at h
  · rename_i hx
    obtain ⟨a', ha⟩ := V.has x (freeKey_cell ok hx)
    rw [ha] at h; cases h
    exact ⟨hx, ha⟩
  · cases h

theorem closAddrs_has (V : Vars W env sc Γ s.heap) (ok : compOk csc sc = true) (hx : x ∈ freeKeys csc.names) : ∃ a, (closAddrs csc env).lookup x = some a := by
  unfold closAddrs
  rw [lookup_keys, if_pos hx]
  exact ⟨_, rfl⟩

theorem closureFor_ok (V : Vars W env sc Γ s.heap) (ok : compOk csc sc = true) : closureFor csc env = pure (closAddrs csc env) := by
  refine closureFor_of fun p hp hf => V.has p.1 (freeKey_cell ok (mem_freeKeys.mpr ?_))
  obtain ⟨y, k⟩ := p
  cases hf; exact hp

/-- the frame of a comprehension at its start -/
theorem Vars.comp (V : Vars W env sc Γ s.heap) (ok : compOk csc sc = true) (hck : csc.kind = .function) {h' : Heap} (hC : h'.Ns C fun _ => none) (M : Moves W W' s.heap h') (pre : W <+: W') :
    Vars W' (compEnvC csc (closAddrs csc env) C env) (relab csc sc) (capt csc sc Γ) h' := by
  obtain ⟨m, cm, hn, hc, hg⟩ := V.frame
  refine ⟨relabel_relab V.scope V.kind, hck, V.glob, V.blt, ?_, fun x hx => closAddrs_has V ok (relab_cell ok hx), fun a ha => ?_, ⟨_, cm, hC, fun y a ha => ?_, fun y b hy => ?_⟩⟩
  · have ok' := ok
    unfold compOk at ok'
    rw [Bool.and_eq_true] at ok'
    have hnd := nodup_freeKeys (of_decide_eq_true ok'.1)
    show (closAddrs csc env).Pairwise _
    unfold closAddrs
    rw [List.pairwise_map]
    refine List.Pairwise.imp_of_mem (fun {p q} hp hq hpq e => hpq ?_) hnd
    obtain ⟨a, ha⟩ := V.has p (freeKey_cell ok hp)
    obtain ⟨a', ha'⟩ := V.has q (freeKey_cell ok hq)
    simp only [ha, ha', Option.getD_some] at e
    subst e
    exact name_of_addr V.apart (mem_of_lookup ha) (mem_of_lookup ha')
  · obtain ⟨p, hp, rfl⟩ := List.mem_map.mp ha
    have hp' : p ∈ closAddrs csc env := hp
    unfold closAddrs at hp'
    obtain ⟨k, hk, rfl⟩ := List.mem_map.mp hp'
    refine ⟨k, ?_⟩
    show (closAddrs csc env).lookup k = _
    unfold closAddrs
    rw [lookup_keys, if_pos hk]
  · obtain ⟨h1, h2⟩ := closAddrs_lookup V ok ha
    obtain ⟨o, e, d⟩ := hc y a h2
    exact ⟨o, M.keep _ o (M.lists.notCell (hc y a h2)) e, d⟩
  · unfold capt at hy
    rw [lookup_filter (f := fun z => (relab csc sc).names.lookup z == some .cell && sc.names.lookup z == some .cell)] at hy
    split at hy
    · rename_i hz
      rw [Bool.and_eq_true] at hz
      obtain ⟨v, h1, h2⟩ := hg y b hy
      have e1 : (relab csc sc).names.lookup y = some .cell := by simpa using hz.1
      have e2 : sc.names.lookup y = some .cell := by simpa using hz.2
      refine ⟨v, ?_, h2.move M pre⟩
      unfold slotOf at h1 ⊢
      rw [e2] at h1
      rw [e1]; exact h1
    · cases hy
end
section
variable {c : Cx} {n : Nat} {sc csc rsc : Scope} {Γ Γ' : Gam} {σ σ₁ σ₂ σ₃ σ' : Sto} {env cenv : Env} {W₁ W₀ W W' : List Addr} {s₁ s₀ s s' : Shared} {b : B} {v : Value} {x y : Str} {e l r iter iter2 t elt : Expr} {pos apos p p1 p2 np px py spos : Pos} {k : Nat} {i : Nat} {ds es os os' : List PyData} {d : PyData} {ifs : List Expr} {gens : List Comprehension} {depth : Nat} {A : Around}

noncomputable def CompG (c : Cx) (n : Nat) (rsc : Scope) (Γ : Gam) (σ : Sto) (e : Expr) (ds os : List PyData) (σ' : Sto) : Prop :=
  ∀ (A : Around) (cenv : Env) (W : List Addr) (s₁ s : Shared) (I D : Addr) (fp : List Addr) (P : Nat → Value → Prop) (T : Nat → Heap → Prop) (vs : List Value) (R : Result → Shared → Prop),
    Room n A → Cf c cenv rsc W s₁ Γ σ D [] s → Walks PG c.w A I fp [I] ds.length P T → (∀ i v, i < ds.length → P i v → ∃ d, ds[i]? = some d ∧ ∀ (W : List Addr) (h : Heap), RepAll W h vs ds → Rep W h v d) →
    (∀ i h, T i h → ∃ o fs, h.get? I = some o ∧ o.data = .fields fs) → s₁.heap.get? I = none → Wlk c (W ++ [D]) s.heap I fp T vs ds 0 →
    (∀ s', Cf c cenv rsc W s₁ Γ σ' D os s' → R (.ok .next) s') → codeAny c.M A (.compLoop e 0 (.ref I) (.ref D) cenv) R s

theorem CompG.one (h : C1 c n rsc x ifs elt Γ ds σ os σ') (hl : rsc.names.lookup x = some .local) (hx0 : Γ.lookup x = none) (hz : os.length ≤ 1000000) : CompG c n rsc Γ σ (.ListComp elt [⟨.Name x px, iter, ifs, 0⟩] csc pos) ds os σ' := by
  intro A cenv W s₁ s I D fp P T vs R Rm F Wk item fields hI0 Wl hR
  refine codeLast (fun it acc env => compTurn_one ..) Rm hl hx0 Wk item fields hI0 ds.length 0 σ [] os s rfl (Nat.zero_le _) F Wl h (by simpa using hz) fun s' F' => hR s' ?_
  exact F'
theorem CompG.two (h : C2 c n rsc x iter2 y ifs elt Γ ds σ os σ') (he2 : ∀ (env : Env) (x : Value), foldedSetIterable iter2 env x = pure x) (hl : rsc.names.lookup x = some .local) (hx0 : Γ.lookup x = none) (hl2 : rsc.names.lookup y = some .local) (hy0 : Γ.lookup y = none) (hxy : (y == x) = false) (hz : os.length ≤ 1000000) :
    CompG c n rsc Γ σ (.ListComp elt [⟨.Name x px, iter, [], 0⟩, ⟨.Name y py, iter2, ifs, 0⟩] csc pos) ds os σ' := by
  intro A cenv W s₁ s I D fp P T vs R Rm F Wk item fields hI0 Wl hR
  refine codeOuter (e2 := iter2) (he2 cenv) Rm hl hx0 hl2 hy0 hxy Wk item fields hI0 ds.length 0 σ [] os s rfl (Nat.zero_le _) F Wl h (by simpa using hz) fun s' F' => hR s' ?_
  exact F'

theorem compCore {g : Comprehension} {gs : List Comprehension} {use : Option (Value → Sem Unit)} {Q : Value → Shared → Prop} {E : Value → Shared → Prop} (hit : EvIt c n sc Γ σ g.iter ds σ₁) (hg : CompG c n (relab csc sc) (capt csc sc Γ) σ₁ (.ListComp elt (g :: gs) csc pos) ds os σ₂)
    (ok : compOk csc sc = true) (hck : csc.kind = .function) (has : (g.is_async != 0) = false) (hs : ∀ (env : Env) (x : Value), foldedSetIterable g.iter env x = pure x)
    (hnames : ∀ x ∈ csc.names, x.2 = .local → csc.names.lookup x.1 = some .local) (Rm : Room n A) (V : Vars W env sc Γ s.heap) (S : St c W σ s)
    (hQ : ∀ D C s₅ W', Step W W' s s₅ → St c W' σ₂ s₅ → Rep W' s₅.heap (.ref D) (.list os) → s.heap.get? C = none → (∃ m, s₅.heap.Ns C m) → compPost c.M A E use Q (.ref D) C (.ok .next) s₅) :
    wpAny c.M A (comprehension (.ListComp elt (g :: gs) csc pos) csc env p (newList []) false (eval g.iter env) use) Q E s := by
  have ok' := ok
  unfold compOk at ok'
  rw [Bool.and_eq_true, List.all_eq_true] at ok'
  refine wpAny_comprehension_free (cl := closAddrs csc env) rfl (hs env) (closureFor_ok V ok) hck hnames (hit.run A env s W _ _ Rm V S fun I fp P T vs s₂ W' st S₂ hI It => ?_)
  refine wpAny_newObj_type (wpAny_newFunctionEnv (fun y hy hc => ?_) (by intro y hy; simp at hy) (fun h₁ hns₁ hsb₁ => ?_) hck)
  · have := ok'.2 y hy
    rw [hc] at this; simp at this
  · dsimp only at hns₁ hsb₁ ⊢
    generalize hH2 : s₂.heap.push { cls := .type "list", dict := none, data := .seq ([] : List Value).toArray } = H2 at hns₁ hsb₁ ⊢
    have hC : H2.objs.size = s₂.heap.objs.size + 1 := by rw [← hH2, Heap.size_push]
    have hDC : s₂.heap.objs.size ≠ H2.objs.size := by rw [hC]; exact Nat.ne_of_lt (Nat.lt_succ_self _)
    have hCnone : s₂.heap.get? H2.objs.size = none := get_none (by rw [hC]; exact Nat.le_succ _)
    have hDnone : s₂.heap.get? s₂.heap.objs.size = none := get_none (Nat.le_refl _)
    have hCs : s.heap.get? H2.objs.size = none := st.fresh_back S₂.lists hCnone
    have old : ∀ b o, s₂.heap.get? b = some o → h₁.get? b = some o := fun b o q => hsb₁.extBut b o (fun hb => by rw [hb, hCnone] at q; cases q) (Heap.get?_push_of_some _ (hH2 ▸ Heap.get?_push_of_some _ q))
    have hacc : h₁.get? s₂.heap.objs.size = some (lObj [] 0) := hsb₁.extBut _ _ hDC (Heap.get?_push_of_some _ (hH2 ▸ Heap.get?_push_size _ rfl))
    -- the two new objects
    obtain ⟨st3, S3, r3⟩ := S₂.newCell (vs := []) (ds := []) .nil
    have hold2 : ∀ b o, (s₂.heap.push (lObj [] 0)).get? b = some o → h₁.get? b = some o := fun b o q => hsb₁.extBut b o (fun hb => by
        have hlt := Heap.lt_size q
        have e : (s₂.heap.push (lObj [] 0)).objs.size = s₂.heap.objs.size + 1 := by rw [Heap.size_push]
        rw [hb, e, hC] at hlt; exact Nat.lt_irrefl _ hlt) (Heap.get?_push_of_some _ (hH2 ▸ q))
    have st4 : Step (W' ++ [s₂.heap.objs.size]) (W' ++ [s₂.heap.objs.size]) { s₂ with heap := s₂.heap.push (lObj [] 0) } { s₂ with heap := h₁, toks := s₂.toks + ([] : List (Str × Value)).length } := Step.of_keeps (s := { s₂ with heap := s₂.heap.push (lObj [] 0) }) hold2
    have S4 : St c (W' ++ [s₂.heap.objs.size]) (σ₁ ++ [[]]) { s₂ with heap := h₁, toks := s₂.toks + ([] : List (Str × Value)).length } := S3.keeps (s := { s₂ with heap := s₂.heap.push (lObj [] 0) }) hold2
    have stA := (st.trans st3).trans st4
    have V4 := V.comp (C := H2.objs.size) ok hck (h' := h₁) (by simpa using hns₁) (stA.moves S.lists) stA.pre
    have oldH : ∀ b o, (hideAll s₂.heap [I]).get? b = some o → h₁.get? b = some o := fun b o q => old b o (of_hideAll _ q)
    have F : Cf c (compEnvC csc (closAddrs csc env) H2.objs.size env) (relab csc sc) W' { s₂ with heap := hideAll s₂.heap [I] } (capt csc sc Γ) σ₁ s₂.heap.objs.size [] { s₂ with heap := h₁, toks := s₂.toks + ([] : List (Str × Value)).length } := by
      refine ⟨V4, S4, ⟨⟨h₁, _, rfl⟩, List.prefix_rfl, fun _ h1 h2 => absurd h1 h2, fun b o _ q => oldH b o q⟩, ?_, ?_, fun b o q => hideAll_get _ (S₂.base b o q) fun hm => ?_⟩
      · show (hideAll s₂.heap [I]).get? H2.objs.size = none
        cases q : (hideAll s₂.heap [I]).get? H2.objs.size with
        | none => rfl
        | some o => have := of_hideAll _ q; rw [hCnone] at this; cases this
      · show (hideAll s₂.heap [I]).get? s₂.heap.objs.size = none
        cases q : (hideAll s₂.heap [I]).get? s₂.heap.objs.size with
        | none => rfl
        | some o => have := of_hideAll _ q; rw [hDnone] at this; cases this
      · rw [List.mem_singleton.mp hm] at q
        have := S.base _ _ q
        rw [hI] at this; cases this
    have Wl : Wlk c (W' ++ [s₂.heap.objs.size]) h₁ I fp T vs ds 0 := by
      have there : ∀ b ∈ fp, ∃ o, s₂.heap.get? b = some o := fun b hb => by
        by_cases hbI : b = I
        · obtain ⟨o, fs, g1, _⟩ := It.fields _ _ It.start
          exact ⟨o, hbI ▸ g1⟩
        · obtain ⟨o, xs, m, g1, _⟩ := It.src b hb hbI
          exact ⟨o, g1⟩
      refine ⟨(It.walk A Rm.handled).frame _ _ _ It.start fun b hb o q => old b o q, fun b hb hm => ?_, fun b hb hne => ?_, ?_⟩
      · rcases List.mem_append.mp hm with h | h
        · exact It.out b hb h
        · obtain ⟨o, q⟩ := there b hb
          rw [List.mem_singleton.mp h, hDnone] at q; cases q
      · obtain ⟨o, xs, m, g1, g2⟩ := It.src b hb hne
        exact ⟨o, xs, m, old b o g1, g2⟩
      · exact It.rep.move ((st3.trans st4).moves S₂.lists)
    refine codeStart (E := fun _ _ => True) ?_ has fun Q E hq => (It.walk A Rm.handled).self 0 _ Q E Wl.at_ hq
    refine hg A _ W' _ _ I s₂.heap.objs.size fp P T vs _ Rm F (It.walk A Rm.handled) It.item It.fields (hideAll_none _ (by simp)) Wl fun s₅ F₅ => ?_
    have stF : Step W W' s s₅ := by
      obtain ⟨q1, q2, q3⟩ := st.same
      obtain ⟨g1, g2, g3⟩ := F₅.step.same
      refine ⟨⟨g1, g2, by rw [g3, q3]⟩, st.pre, st.fresh, fun b o hb q => ?_⟩
      have hb' : b ∉ W' := fun hm => by rw [st.fresh b hm hb] at q; cases q
      refine F₅.step.keep b o hb' (hideAll_get _ (st.keep b o hb q) fun hm => ?_)
      rw [List.mem_singleton.mp hm, hI] at q; cases q
    have hlen : W'.length = σ₂.length := by have := F₅.st.len; simpa using this
    obtain ⟨a, us, m, g1, g2, g3⟩ := F₅.st.cell σ₂.length os (by simp)
    have ha : a = s₂.heap.objs.size := by rw [← hlen] at g1; simpa using g1.symm
    subst ha
    have sub : ∀ b ∈ W', b ∈ W' ++ [s₂.heap.objs.size] := fun b hb => List.mem_append.mpr (.inl hb)
    have SF : St c W' σ₂ s₅ := by
      refine ⟨F₅.st.base, fun b hb => F₅.st.fresh b (sub b hb), (List.nodup_append.mp F₅.st.nodup).1, hlen, fun i ds' hi => ?_⟩
      have hlt : i < σ₂.length := (List.getElem?_eq_some_iff.mp hi).1
      obtain ⟨a, vs', m', z1, z2, z3⟩ := F₅.st.cell i ds' (by rw [List.getElem?_append_left hlt]; exact hi)
      exact ⟨a, vs', m', by rw [List.getElem?_append_left (by rw [hlen]; exact hlt)] at z1; exact z1, z2, z3.fewer sub⟩
    have hDW : s₂.heap.objs.size ∉ W' := S₂.lists.ge (Nat.le_refl _)
    obtain ⟨m', cm, hn, _⟩ := F₅.vars.frame
    exact hQ _ _ s₅ W' stF SF (.list g2 hDW (g3.fewer sub)) hCs ⟨m', hn⟩

theorem sameBut_all {C : Addr} {h' : Heap} (st : Step W W' s s') (S : St c W' σ s') (rv : Rep W' s'.heap v d) (hC : s.heap.get? C = none) {m : Str → Option Value} (hn : s'.heap.Ns C m) (hb0 : ∀ b o, c.hb.get? b = some o → s.heap.get? b = some o) (k : Heap.SameBut C s'.heap h') :
    Step W W' s { s' with heap := h' } ∧ St c W' σ { s' with heap := h' } ∧ Rep W' h' v d := by
  have sk := SeqKeep.of_ns hn k
  obtain ⟨q1, q2, q3⟩ := st.same
  have up : ∀ b o, s.heap.get? b = some o → s'.heap.get? b = some o → h'.get? b = some o := fun b o q q' => (k.2 b fun hb => by rw [hb, hC] at q; cases q).trans q'
  exact ⟨⟨⟨h', q2, by rw [q3]⟩, st.pre, st.fresh, fun b o hb q => up b o q (st.keep b o hb q)⟩, S.seqs (tk := s'.toks) sk fun b o q => up b o (hb0 b o q) (S.base b o q), rv.seqs sk⟩

theorem Ev.comp {g : Comprehension} {gs : List Comprehension} (hit : EvIt c n sc Γ σ g.iter ds σ₁) (hg : CompG c n (relab csc sc) (capt csc sc Γ) σ₁ (.ListComp elt (g :: gs) csc pos) ds os σ₂)
    (ok : compOk csc sc = true) (hck : csc.kind = .function) (has : (g.is_async != 0) = false) (hs : ∀ (env : Env) (x : Value), foldedSetIterable g.iter env x = pure x)
    (hnames : ∀ x ∈ csc.names, x.2 = .local → csc.names.lookup x.1 = some .local) : Ev c n sc Γ σ (.ListComp elt (g :: gs) csc pos) (.val (.list os)) σ₂ := by
  refine ⟨?_⟩
  intro A env s W Q E Rm V S hQ
  have e1 : firstAsync (g :: gs) = false := by cases g; exact has
  have e2 : firstIter (g :: gs) env = eval g.iter env := by cases g; rfl
  rw [eval_ListComp, e1, e2]
  refine compCore (use := none) hit hg ok hck has hs hnames Rm V S fun D C s₅ W' st S5 r5 hC hn => ?_
  obtain ⟨m, hn⟩ := hn
  refine ⟨m, hn, fun h' hk => ?_⟩
  obtain ⟨st', S', r'⟩ := sameBut_all st S5 r5 hC hn S.base hk
  exact hQ _ _ W' st' S' r'

theorem After.comp {g : Comprehension} {gs : List Comprehension} (hit : EvIt c n sc Γ σ g.iter ds σ₁) (hg : CompG c n (relab csc sc) (capt csc sc Γ) σ₁ (.ListComp elt (g :: gs) csc pos) ds os σ₂)
    (ok : compOk csc sc = true) (hck : csc.kind = .function) (has : (g.is_async != 0) = false) (hs : ∀ (env : Env) (x : Value), foldedSetIterable g.iter env x = pure x)
    (hnames : ∀ x ∈ csc.names, x.2 = .local → csc.names.lookup x.1 = some .local) (hy : sc.names.lookup y = some .local)
    (hsw : ∀ env : Env, env.scope = sc → swapsWith (.ListComp elt (g :: gs) csc pos) (some (.Name y py)) spos.line env = pure true) :
    After c n sc (.Assign [.Name y py] (.ListComp elt (g :: gs) csc pos) spos) Γ σ ((y, .val (.list os)) :: Γ) σ₂ := by
  refine ⟨?_⟩
  intro A env s₀ W₀ s W Q E Rm F hQ
  rw [exec_Assign_Name_used _ _ _ _ (hsw env F.vars.scope)]
  refine wpAny_bind (wpAny_standAt (wpAny_bind ?_))
  have e1 : firstAsync (g :: gs) = false := by cases g; exact has
  have e2 : firstIter (g :: gs) env = eval g.iter env := by cases g; rfl
  show wpAny _ A (do let _ ← comprehension (.ListComp elt (g :: gs) csc pos) csc env _ (newList []) (firstAsync (g :: gs)) (firstIter (g :: gs) env) (some (assign (.Name y py) env))) _ _ s
  rw [e1, e2]
  refine wpAny_bind (wpAny_mono (compCore (use := some (assign (.Name y py) env)) (Q := fun _ s' => Q .next s') hit hg ok hck has hs hnames Rm F.vars F.st fun D C s₅ W' st S5 r5 hC hn => ?_) (fun _ s' hq => wpAny_pure (wpAny_pure hq)) fun _ _ e => e)
  obtain ⟨m, hn⟩ := hn
  show wpAny _ A (assign (.Name y py) env (.ref D)) _ _ _
  have F5 := F.move st S5
  have rB : RepB W' s₅.heap (.ref D) (.val (.list os)) := r5
  refine wpAny_assign_Name (F5.storeL (.inl hy) rB fun h' tk L hL hk _ F6 => ?_)
  have hLC : L ≠ C := by
    obtain ⟨m', cm, hn', hc, _⟩ := F.vars.frame
    rcases hL with rfl | ⟨z, hz⟩
    · rintro rfl
      obtain ⟨o, _, _, ho, _⟩ := hn'
      rw [hC] at ho; cases ho
    · rintro rfl
      obtain ⟨o, ho, _⟩ := hc z L hz
      rw [hC] at ho; cases ho
  have hLC' : C ≠ env.locals := by
    obtain ⟨m', cm, hn', hc, _⟩ := F.vars.frame
    rintro rfl
    obtain ⟨o, _, _, ho, _⟩ := hn'
    rw [hC] at ho; cases ho
  have hn6 : h'.Ns C m := hn.sameBut hk (Ne.symm hLC)
  refine ⟨m, hn6, fun h'' hk' => ?_⟩
  exact hQ _ W' (F6.apart hn6 (F.step.fresh_back F.st.lists hC) hLC' hk')
end
inductive K where
  | var (x : Str)
  | num
  | fn
  | bottom
  | nm (h : Str)
  | arr (a : K)
  | union (a b : K)
  | typeof (a : K)
  | all (x : Str) (hi b : K)
  | tup (ps : List K) (r : Option K)

theorem K.ind {P : K → Prop} (var : ∀ x, P (.var x)) (num : P .num) (fn : P .fn) (bottom : P .bottom) (nm : ∀ h, P (.nm h)) (arr : ∀ a, P a → P (.arr a)) (union : ∀ a b, P a → P b → P (.union a b))
    (typeof : ∀ a, P a → P (.typeof a)) (all : ∀ x hi b, P hi → P b → P (.all x hi b)) (tup : ∀ ps r, (∀ p ∈ ps, P p) → (∀ q, r = some q → P q) → P (.tup ps r)) : ∀ k, P k :=
  fun k => K.rec (motive_1 := P) (motive_2 := fun ps => ∀ p ∈ ps, P p) (motive_3 := fun r => ∀ q, r = some q → P q) var num fn bottom nm arr union typeof all tup (fun _ h => (nomatch h))
    (fun p ps h1 h2 q hq => by
      rcases List.mem_cons.mp hq with rfl | hq
      · exact h1
      · exact h2 q hq) (fun _ h => (nomatch h)) (fun q h p e => by cases e; exact h) k

noncomputable abbrev dS (x : String) : PyData := .str (Str.ofString x)

mutual
noncomputable def enc : K → PyData
  | .var x => .tuple [dS "var", .str x]
  | .num => .tuple [dS "n", .int 1]
  | .fn => .tuple [dS "fn", dS "f"]
  | .bottom => .tuple [dS "bottom"]
  | .nm h => .tuple [dS "name", .str h, .tuple []]
  | .arr a => .tuple [dS "name", dS "Array", .tuple [enc a, .tuple [dS "n", .int 1]]]
  | .union a b => .tuple [dS "union", .tuple [enc a, enc b]]
  | .typeof a => .tuple [dS "typeof", enc a]
  | .all x hi b => .tuple [dS "all", .str x, .tuple [dS "bottom"], enc hi, enc b]
  | .tup ps r => .tuple [dS "tuple", .tuple (encs ps), encO r]
noncomputable def encs : List K → List PyData
  | [] => []
  | p :: ps => enc p :: encs ps
noncomputable def encO : Option K → PyData
  | none => .none
  | some r => enc r
end

theorem encs_map : ∀ ps : List K, encs ps = ps.map enc
  | [] => rfl
  | p :: ps => congrArg (enc p :: ·) (encs_map ps)

mutual
noncomputable def hgt : K → Nat
  | .arr a => hgt a + 1
  | .union a b => max (hgt a) (hgt b) + 1
  | .typeof a => hgt a + 1
  | .all x hi b => max (hgt hi) (hgt b) + 1
  | .tup ps r => max (hgts ps) (hgtO r) + 1
  | _ => 0
noncomputable def hgts : List K → Nat
  | [] => 0
  | p :: ps => max (hgt p) (hgts ps)
noncomputable def hgtO : Option K → Nat
  | none => 0
  | some r => hgt r
end
mutual
noncomputable def sz : K → Nat
  | .arr a => sz a + 2
  | .union a b => sz a + sz b + 1
  | .typeof a => sz a + 1
  | .all x hi b => sz hi + sz b + 2
  | .tup ps r => szs ps + szO r + 1
  | _ => 1
noncomputable def szs : List K → Nat
  | [] => 0
  | p :: ps => sz p + szs ps
noncomputable def szO : Option K → Nat
  | none => 0
  | some r => sz r
end

theorem sz_arr (a : K) : sz (.arr a) = sz a + 2 := rfl
theorem sz_union (a b : K) : sz (.union a b) = sz a + sz b + 1 := rfl
theorem sz_typeof (a : K) : sz (.typeof a) = sz a + 1 := rfl
theorem sz_all (x : Str) (hi b : K) : sz (.all x hi b) = sz hi + sz b + 2 := rfl
theorem sz_tup (ps : List K) (r : Option K) : sz (.tup ps r) = szs ps + szO r + 1 := rfl
theorem szO_some (r : K) : szO (some r) = sz r := rfl
theorem hgt_arr (a : K) : hgt (.arr a) = hgt a + 1 := rfl
theorem hgt_union (a b : K) : hgt (.union a b) = max (hgt a) (hgt b) + 1 := rfl
theorem hgt_typeof (a : K) : hgt (.typeof a) = hgt a + 1 := rfl
theorem hgt_all (x : Str) (hi b : K) : hgt (.all x hi b) = max (hgt hi) (hgt b) + 1 := rfl
theorem hgt_tup (ps : List K) (r : Option K) : hgt (.tup ps r) = max (hgts ps) (hgtO r) + 1 := rfl
theorem hgtO_some (r : K) : hgtO (some r) = hgt r := rfl
theorem enc_tup (ps : List K) (r : Option K) : enc (.tup ps r) = .tuple [dS "tuple", .tuple (encs ps), encO r] := rfl
theorem enc_var (x : Str) : enc (.var x) = .tuple [dS "var", .str x] := rfl
theorem enc_all (x : Str) (hi b : K) : enc (.all x hi b) = .tuple [dS "all", .str x, .tuple [dS "bottom"], enc hi, enc b] := rfl
theorem encO_some (r : K) : encO (some r) = enc r := rfl
theorem encO_none : encO none = .none := rfl
theorem encs_cons (p : K) (ps : List K) : encs (p :: ps) = enc p :: encs ps := rfl
theorem encs_nil : encs [] = [] := rfl
theorem sz_pos : ∀ k, 0 < sz k := by
  intro k; cases k <;> exact Nat.succ_pos _
theorem szs_len : ∀ ps : List K, ps.length ≤ szs ps
  | [] => Nat.le_refl _
  | p :: ps => by have := sz_pos p; have := szs_len ps; show ps.length + 1 ≤ sz p + szs ps; omega
theorem szs_mem : ∀ {ps : List K} {p : K}, p ∈ ps → sz p ≤ szs ps
  | p :: ps, q, h => by
    show _ ≤ sz p + szs ps
    rcases List.mem_cons.mp h with rfl | h
    · omega
    · have := szs_mem h; omega
theorem hgts_mem : ∀ {ps : List K} {p : K}, p ∈ ps → hgt p ≤ hgts ps
  | p :: ps, q, h => by
    show _ ≤ max (hgt p) (hgts ps)
    rcases List.mem_cons.mp h with rfl | h
    · omega
    · have := hgts_mem h; omega

/-- the parts that free_vars walks over -/
noncomputable def kids : K → List K
  | .arr a => [a, .num]
  | .union a b => [a, b]
  | .typeof a => [a]
  | .tup ps r => ps ++ r.toList
  | _ => []

theorem kids_tup (ps : List K) (r : Option K) : kids (.tup ps r) = ps ++ r.toList := rfl
section
variable {c : Cx} {n : Nat} {sc : Scope} {Γ Γ' : Gam} {σ σ₁ σ₂ σ' : Sto} {e l r t : Expr} {es : List Expr} {pos : Pos} {b b' : B} {q : Bool} {ss rest body orelse : List Stmt} {R : Res}
theorem Tst.andT (h₁ : Tst c n sc Γ σ e true σ) (h₂ : Tst c n sc Γ σ (.BoolOp .And es pos) q σ) : Tst c n sc Γ σ (.BoolOp .And (e :: es) pos) q σ := by
  have := Tst.and (p := true) (q := q) h₁ (fun _ => h₂); simpa using this
theorem Tst.andF (h₁ : Tst c n sc Γ σ e false σ) : Tst c n sc Γ σ (.BoolOp .And (e :: es) pos) false σ := by
  have := Tst.and (p := false) (q := false) (es := es) (pos := pos) h₁ (fun h => nomatch h); simpa using this
theorem Tst.orF (h₁ : Tst c n sc Γ σ e false σ) (h₂ : Tst c n sc Γ σ (.BoolOp .Or es pos) q σ) : Tst c n sc Γ σ (.BoolOp .Or (e :: es) pos) q σ := by
  have := Tst.or (p := false) (q := q) h₁ (fun _ => h₂); simpa using this
theorem Tst.orT (h₁ : Tst c n sc Γ σ e true σ) : Tst c n sc Γ σ (.BoolOp .Or (e :: es) pos) true σ := by
  have := Tst.or (p := true) (q := false) (es := es) (pos := pos) h₁ (fun h => nomatch h); simpa using this
theorem Tst.notT (h₁ : Tst c n sc Γ σ e true σ₁) : Tst c n sc Γ σ (.UnaryOp .Not e pos) false σ₁ := Tst.not h₁
theorem Tst.notF (h₁ : Tst c n sc Γ σ e false σ₁) : Tst c n sc Γ σ (.UnaryOp .Not e pos) true σ₁ := Tst.not h₁
theorem Ev.andT {e₂ : Expr} {p : Bool} (h₁ : Ev c n sc Γ σ e (.val (.bool true)) σ) (h₂ : Ev c n sc Γ σ (.BoolOp .And (e₂ :: es) pos) (.val (.bool p)) σ) : Ev c n sc Γ σ (.BoolOp .And (e :: e₂ :: es) pos) (.val (.bool p)) σ := by
  have := Ev.and (p := true) (q := p) h₁ (fun _ => h₂); simpa using this
theorem Ev.andF {e₂ : Expr} (h₁ : Ev c n sc Γ σ e (.val (.bool false)) σ) : Ev c n sc Γ σ (.BoolOp .And (e :: e₂ :: es) pos) (.val (.bool false)) σ := by
  have := Ev.and (p := false) (q := false) (e₂ := e₂) (es := es) (pos := pos) h₁ (fun h => nomatch h); simpa using this
theorem Ev.orF {e₂ : Expr} {p : Bool} (h₁ : Ev c n sc Γ σ e (.val (.bool false)) σ) (h₂ : Ev c n sc Γ σ (.BoolOp .Or (e₂ :: es) pos) (.val (.bool p)) σ) : Ev c n sc Γ σ (.BoolOp .Or (e :: e₂ :: es) pos) (.val (.bool p)) σ := by
  have := Ev.or (p := false) (q := p) h₁ (fun _ => h₂); simpa using this
theorem Ev.orT {e₂ : Expr} (h₁ : Ev c n sc Γ σ e (.val (.bool true)) σ) : Ev c n sc Γ σ (.BoolOp .Or (e :: e₂ :: es) pos) (.val (.bool true)) σ := by
  have := Ev.or (p := true) (q := false) (e₂ := e₂) (es := es) (pos := pos) h₁ (fun h => nomatch h); simpa using this
theorem Ev.ifT {x y : Expr} (h : Tst c n sc Γ σ t true σ₁) (h₂ : Ev c n sc Γ σ₁ x b σ₂) : Ev c n sc Γ σ (.IfExp t x y pos) b σ₂ := Ev.ifexp h h₂
theorem Ev.ifF {x y : Expr} (h : Tst c n sc Γ σ t false σ₁) (h₂ : Ev c n sc Γ σ₁ y b σ₂) : Ev c n sc Γ σ (.IfExp t x y pos) b σ₂ := Ev.ifexp h h₂
theorem Exec.retT (ht : Tst c n sc Γ σ t true σ₁) (h : Exec c n sc Γ σ₁ body (.ret b σ₂)) : Exec c n sc Γ σ (.If t body orelse pos :: rest) (.ret b σ₂) := Exec.if_ret (q := true) ht h
theorem Exec.retF (ht : Tst c n sc Γ σ t false σ₁) (h : Exec c n sc Γ σ₁ orelse (.ret b σ₂)) : Exec c n sc Γ σ (.If t body orelse pos :: rest) (.ret b σ₂) := Exec.if_ret (q := false) ht h
theorem Exec.nextT (ht : Tst c n sc Γ σ t true σ₁) (h : Exec c n sc Γ σ₁ body (.next Γ' σ₂)) (h₂ : Exec c n sc Γ' σ₂ rest R) : Exec c n sc Γ σ (.If t body orelse pos :: rest) R := Exec.if_next (q := true) ht h h₂
theorem Exec.nextF (ht : Tst c n sc Γ σ t false σ₁) (h : Exec c n sc Γ σ₁ orelse (.next Γ' σ₂)) (h₂ : Exec c n sc Γ' σ₂ rest R) : Exec c n sc Γ σ (.If t body orelse pos :: rest) R := Exec.if_next (q := false) ht h h₂
theorem Exec.skip (ht : Tst c n sc Γ σ t false σ₁) (h₂ : Exec c n sc Γ σ₁ rest R) : Exec c n sc Γ σ (.If t body [] pos :: rest) R := Exec.if_next (q := false) ht Exec.nil h₂

theorem Evs.vnil : Evs c n sc Γ σ [] (vals []) σ := Evs.nil
theorem Evs.vcons {d : PyData} {ds : List PyData} (hp : plainE e = true) (h : Ev c n sc Γ σ e (.val d) σ₁) (h₂ : Evs c n sc Γ σ₁ es (vals ds) σ₂) : Evs c n sc Γ σ (e :: es) (vals (d :: ds)) σ₂ := Evs.cons h h₂ hp
theorem CalR.cal1 {f : Value} {d r : PyData} (h : CalR c f [d] r) : Cal c n f [.val d] σ (.val r) σ := CalR.cal h
theorem CalR.cal2 {f : Value} {d d' r : PyData} (h : CalR c f [d, d'] r) : Cal c n f [.val d, .val d'] σ (.val r) σ := CalR.cal h
theorem C1.maps {α : Type} {ps : List α} {f g : α → PyData} {x : Str} {ds : List PyData} (q : ds = ps.map f) (h : ∀ p ∈ ps, ∀ τ, Ev c n sc ((x, .val (f p)) :: Γ) (σ ++ [τ]) e (.val (g p)) (σ ++ [τ])) : C1 c n sc x [] e Γ ds σ (ps.map g) σ := by
  subst q
  induction ps with
  | nil => exact .nil
  | cons p ps ih => exact .cons (fun τ => .inl ⟨rfl, rfl, rfl⟩) (h p (.head _)) rfl rfl (ih fun p hp => h p (.tail _ hp))
noncomputable def maxL : List Int → Int
  | [] => 0
  | x :: xs => xs.foldl max x
theorem foldl_max_le (xs : List Int) (x : Int) : x ≤ xs.foldl max x ∧ (∀ y ∈ xs, y ≤ xs.foldl max x) ∧ (xs.foldl max x = x ∨ xs.foldl max x ∈ xs) := by
  induction xs generalizing x with
  | nil => exact ⟨Int.le_refl _, fun _ h => (nomatch h), .inl rfl⟩
  | cons y ys ih =>
    obtain ⟨h1, h2, h3⟩ := ih (max x y)
    refine ⟨by rw [List.foldl_cons]; omega, fun z hz => ?_, ?_⟩
    · rw [List.foldl_cons]
      rcases List.mem_cons.mp hz with rfl | hz
      · omega
      · exact h2 z hz
    · rw [List.foldl_cons]
      rcases h3 with h3 | h3
      · by_cases h : y ≤ x
        · left; rw [h3]; omega
        · right; rw [h3, show max x y = y by omega]; exact .head _
      · right; exact .tail _ h3
theorem maxL_mem {ns : List Int} (h : ns ≠ []) : maxL ns ∈ ns := by
  cases ns with
  | nil => exact absurd rfl h
  | cons x xs =>
    rcases (foldl_max_le xs x).2.2 with h | h
    · show xs.foldl max x ∈ _; rw [h]; exact .head _
    · exact .tail _ h
theorem maxL_le {ns : List Int} {y : Int} (h : y ∈ ns) : y ≤ maxL ns := by
  cases ns with
  | nil => cases h
  | cons x xs =>
    rcases List.mem_cons.mp h with rfl | h
    · exact (foldl_max_le xs y).1
    · exact (foldl_max_le xs x).2.1 y h
theorem cal_maxL {ns : List Int} (h : ns ≠ []) : CalR c (.builtin "max") [.list (ns.map .int)] (.int (maxL ns)) := cal_max (maxL_mem h) fun _ ha => maxL_le ha
theorem cal_maxs {α : Type} {ps : List α} {g : α → Int} (h : ps ≠ []) : CalR c (.builtin "max") [.list (ps.map fun p => PyData.int (g p))] (.int (maxL (ps.map g))) := by
  have e : (ps.map fun p => PyData.int (g p)) = (ps.map g).map .int := by simp
  rw [e]; exact cal_maxL (by simpa using h)
theorem cal_sums {α : Type} {ps : List α} {g : α → Int} : CalR c (.builtin "sum") [.list (ps.map fun p => PyData.int (g p))] (.int (ps.map g).sum) := by
  have e : (ps.map fun p => PyData.int (g p)) = (ps.map g).map .int := by simp
  rw [e]; exact cal_sum
theorem bools_any {α : Type} {ps : List α} {g : α → Bool} : ((ps.map fun p => PyData.bool (g p)).any fun y => PyData.eqv y (.bool true)) = ps.any g := by
  induction ps with
  | nil => rfl
  | cons p ps ih => rw [List.map_cons, List.any_cons, List.any_cons, ih]; cases h : g p <;> simp [PyData.eqv, h]
theorem bin_two {xs : List PyData} (h : xs.length ≤ 1000) : BinR c .Mult (.list xs) (.int 2) (.list (xs ++ xs)) := by
  have := bin_times (c := c) (xs := xs) (k := 2) (by decide) h
  simpa [List.replicate] using this
theorem bin_seven {xs : List PyData} (h : xs.length ≤ 1000) : BinR c .Mult (.list xs) (.int 7) (.list (List.replicate 7 xs).flatten) := by
  have := bin_times (c := c) (xs := xs) (k := 7) (by decide) h
  simpa using this
theorem bottom_rep (c : Cx) : Rep [] c.hb (.ref 15) (.tuple [.str (Str.ofString "bottom")]) := .tuple (vs := [_]) (n := 0) (c.X 15 _ rfl) (.cons (.str _ _ (by kernel_rfl)) .nil)
theorem binds2d {fd : FuncData} {p q : Str} (h : ∀ (s : Shared) v u, (∀ b o, c.hb.get? b = some o → s.heap.get? b = some o) → BindsTo s fd ⟨[v, u], []⟩ [(p, v), (q, u)]) :
    ∀ (s : Shared) (W : List Addr) (vs : List Value), St c W σ s → RepBs W s.heap vs [b, b'] → ∃ us, BindsTo s fd ⟨vs, []⟩ ([p, q].zip us) ∧ RepBs W s.heap us [b, b'] := by
  intro s W vs S r
  cases r with
  | cons a q' =>
    cases q' with
    | cons a' q'' =>
      cases q''
      exact ⟨[_, _], h s _ _ S.base, .cons a (.cons a' .nil)⟩
theorem binds1d {fd : FuncData} {p q : Str} (h : ∀ (s : Shared) v, (∀ b o, c.hb.get? b = some o → s.heap.get? b = some o) → BindsTo s fd ⟨[v], []⟩ [(p, v), (q, .none)]) :
    ∀ (s : Shared) (W : List Addr) (vs : List Value), St c W σ s → RepBs W s.heap vs [b] → ∃ us, BindsTo s fd ⟨vs, []⟩ ([p, q].zip us) ∧ RepBs W s.heap us [b, .val .none] := by
  intro s W vs S r
  cases r with
  | cons a q' =>
    cases q'
    exact ⟨[_, _], h s _ S.base, .cons a (.cons .none .nil)⟩
theorem C2.maps {α β : Type} {ps : List α} {f : α → PyData} {qs : α → List β} {f2 : α → β → PyData} {g : α → β → PyData} {x y : Str} {iter2 : Expr} {ds : List PyData} (q : ds = ps.map f)
    (h1 : ∀ p ∈ ps, ∀ τ, EvIt c n sc ((x, .val (f p)) :: Γ) (σ ++ [τ]) iter2 ((qs p).map (f2 p)) (σ ++ [τ]))
    (h2 : ∀ p ∈ ps, ∀ q ∈ qs p, ∀ τ, Ev c n sc ((y, .val (f2 p q)) :: (x, .val (f p)) :: Γ) (σ ++ [τ]) e (.val (g p q)) (σ ++ [τ])) :
    C2 c n sc x iter2 y [] e Γ ds σ (ps.flatMap fun p => (qs p).map (g p)) σ := by
  subst q
  induction ps with
  | nil => exact .nil
  | cons p ps ih => exact .cons (h1 p (.head _)) rfl (C1.maps rfl (h2 p (.head _))) (ih (fun p hp => h1 p (.tail _ hp)) fun p hp => h2 p (.tail _ hp))
theorem ForR.fold {α β : Type} {f : α → PyData} {stepF : β → α → β} {G : β → Gam} {ok : List α → β → Prop} {x : Str} : ∀ {ps : List α},
    (∀ p rest, p ∈ ps → ∀ s, ok (p :: rest) s → ok rest (stepF s p) ∧ ∃ Γ', Exec c n sc ((x, .val (f p)) :: G s) σ body (.next Γ' σ) ∧ (∀ y b, (G (stepF s p)).lookup y = some b → Γ'.lookup y = some b)) →
    ∀ s, ok ps s → ForR c n sc x body (ps.map f) (G s) σ (.next (G (ps.foldl stepF s)) σ)
  | [], _, s, _ => .nil
  | p :: ps, h, s, hs => by
    obtain ⟨h1, Γ', h2, h3⟩ := h p ps (.head _) s hs
    exact .cons h2 (.weaken h3 (ForR.fold (fun q rest hq => h q rest (.tail _ hq)) _ h1))
theorem Gam.keep {x : Str} {b : B} (h : ∀ y u, Γ.lookup y = some u → Γ'.lookup y = some u) : ∀ y u, ((x, b) :: Γ : Gam).lookup y = some u → ((x, b) :: Γ' : Gam).lookup y = some u := by
  intro y u e
  rw [List.lookup_cons] at e ⊢
  split at e
  · exact e
  · exact h y u e
theorem Cal.as {f : Value} {args : List B} (h : Cal c n f args σ b σ₁) (e : b = b') : Cal c n f args σ b' σ₁ := e ▸ h
theorem Ev.as (h : Ev c n sc Γ σ e b σ₁) (q : b = b') : Ev c n sc Γ σ e b' σ₁ := q ▸ h

theorem binds1 {fd : FuncData} {p : Str} (h : ∀ s v, BindsTo s fd ⟨[v], []⟩ [(p, v)]) :
    ∀ (s : Shared) (W : List Addr) (vs : List Value), St c W σ s → RepBs W s.heap vs [b] → ∃ us, BindsTo s fd ⟨vs, []⟩ ([p].zip us) ∧ RepBs W s.heap us [b] := by
  intro s W vs S r
  cases r with
  | cons a q =>
    cases q
    exact ⟨[_], h s _, .cons a .nil⟩
theorem binds2 {fd : FuncData} {p q : Str} (h : ∀ s v u, BindsTo s fd ⟨[v, u], []⟩ [(p, v), (q, u)]) :
    ∀ (s : Shared) (W : List Addr) (vs : List Value), St c W σ s → RepBs W s.heap vs [b, b'] → ∃ us, BindsTo s fd ⟨vs, []⟩ ([p, q].zip us) ∧ RepBs W s.heap us [b, b'] := by
  intro s W vs S r
  cases r with
  | cons a q' =>
    cases q' with
    | cons a' q'' =>
      cases q''
      exact ⟨[_, _], h s _ _, .cons a (.cons a' .nil)⟩

theorem Ev.pop' {x : Str} {i : Nat} {ds : List PyData} {d : PyData} {p apos : Pos} (hx : Γ.lookup x = some (.cell i)) (hd : (x == ("__debug__" : Str)) = false) (hds : σ[i]? = some (ds ++ [d])) (hz : ds.length ≤ 1000000) (hl : (apos.endLine == pos.line) = true) (hσ : σ.set i ds = σ₁) :
    Ev c n sc Γ σ (.Call (.Attribute (.Name x p) (Str.ofString "pop") apos) [] [] pos) (.val d) σ₁ := hσ ▸ Ev.pop hx hd hds hz hl
theorem Ev.append' {x : Str} {i : Nat} {ds : List PyData} {d : PyData} {p apos : Pos} (hx : Γ.lookup x = some (.cell i)) (hd : (x == ("__debug__" : Str)) = false) (h : Ev c n sc Γ σ e (.val d) σ₁) (hp : plainE e = true) (hds : σ₁[i]? = some ds) (hz : ds.length ≤ 1000000) (hl : (apos.endLine == pos.line) = true) (hσ : σ₁.set i (ds ++ [d]) = σ₂) :
    Ev c n sc Γ σ (.Call (.Attribute (.Name x p) (Str.ofString "append") apos) [e] [] pos) (.val .none) σ₂ := hσ ▸ Ev.append hx hd h hp hds hz hl
theorem Ev.extend' {x : Str} {i : Nat} {ds es : List PyData} {p apos : Pos} (hx : Γ.lookup x = some (.cell i)) (hd : (x == ("__debug__" : Str)) = false) (h : Ev c n sc Γ σ e (.val (.list es)) σ₁) (hp : plainE e = true) (hds : σ₁[i]? = some ds) (hz : ds.length + es.length ≤ 1000000) (hl : (apos.endLine == pos.line) = true) (hσ : σ₁.set i (ds ++ es) = σ₂) :
    Ev c n sc Γ σ (.Call (.Attribute (.Name x p) (Str.ofString "extend") apos) [e] [] pos) (.val .none) σ₂ := hσ ▸ Ev.extend hx hd h hp hds hz hl
theorem Cal.fn {f : Addr} {o : Obj} {fd : FuncData} {body : List Stmt} {ps : List Str} {as bs : List B} (hf : c.K.lookup f = some o) (hfd : o.data = .func fd) (hcode : codeIn c.K fd.code fd.qualname = true)
    (hbody : fd.body = .stmts body) (hclo : fd.closure = []) (hglob : fd.globals = mainGlobals) (hblt : fd.builtins = builtinsNs)
    (hbind : ∀ (s : Shared) (W : List Addr) (vs : List Value), St c W σ s → RepBs W s.heap vs as → ∃ us, BindsTo s fd ⟨vs, []⟩ (ps.zip us) ∧ RepBs W s.heap us bs)
    (hnd : ps.Nodup) (hlen : ps.length = bs.length) (hk : ∀ p ∈ ps, fd.scope.names.lookup p = some .local ∨ fd.scope.names.lookup p = some .cell)
    (hcn : ((cellsFrom 0 fd.scope.names []).map (·.1)).Nodup) (hex : ∃ b₀, Exec c n fd.scope (ps.zip bs) σ body (.ret b₀ σ₁) ∧ b₀ = b)
    (hco : fd.scope.isCoroutine = false) (hgen : fd.scope.isGenerator = false) (hkind : fd.scope.kind = .function) : Cal c (n + 1) (.ref f) as σ b σ₁ := by
  obtain ⟨b₀, h, rfl⟩ := hex
  exact Cal.of hf hfd hcode hbody hclo hglob hblt hbind hnd hlen hk hcn h hco hgen hkind

theorem Cal.fn1 {f : Addr} {o : Obj} {fd : FuncData} {body : List Stmt} {p : Str} {a b₀ : B} (hf : c.K.lookup f = some o) (hfd : o.data = .func fd) (hcode : codeIn c.K fd.code fd.qualname = true)
    (hbody : fd.body = .stmts body) (hclo : fd.closure = []) (hglob : fd.globals = mainGlobals) (hblt : fd.builtins = builtinsNs) (hbind : ∀ s v, BindsTo s fd ⟨[v], []⟩ [(p, v)])
    (hk : storable fd.scope p = true) (hcn : ((cellsFrom 0 fd.scope.names []).map (·.1)).Nodup) (hex : Exec c n fd.scope [(p, a)] σ body (.ret b₀ σ₁)) (hb : b₀ = b)
    (hco : fd.scope.isCoroutine = false) (hgen : fd.scope.isGenerator = false) (hkind : fd.scope.kind = .function) : Cal c (n + 1) (.ref f) [a] σ b σ₁ :=
  Cal.fn (ps := [p]) (bs := [a]) hf hfd hcode hbody hclo hglob hblt (binds1 hbind) (by simp) rfl (fun q hq => by rw [List.mem_singleton.mp hq]; exact storable_or hk) hcn ⟨b₀, hex, hb⟩ hco hgen hkind
theorem Cal.fn2 {f : Addr} {o : Obj} {fd : FuncData} {body : List Stmt} {p q : Str} {a a' b₀ : B} (hf : c.K.lookup f = some o) (hfd : o.data = .func fd) (hcode : codeIn c.K fd.code fd.qualname = true)
    (hbody : fd.body = .stmts body) (hclo : fd.closure = []) (hglob : fd.globals = mainGlobals) (hblt : fd.builtins = builtinsNs) (hbind : ∀ s v u, BindsTo s fd ⟨[v, u], []⟩ [(p, v), (q, u)])
    (hk : (p != q && storable fd.scope p && storable fd.scope q) = true) (hcn : ((cellsFrom 0 fd.scope.names []).map (·.1)).Nodup) (hex : Exec c n fd.scope [(p, a), (q, a')] σ body (.ret b₀ σ₁)) (hb : b₀ = b)
    (hco : fd.scope.isCoroutine = false) (hgen : fd.scope.isGenerator = false) (hkind : fd.scope.kind = .function) : Cal c (n + 1) (.ref f) [a, a'] σ b σ₁ := by
  rw [Bool.and_eq_true, Bool.and_eq_true] at hk
  obtain ⟨⟨h1, h2⟩, h3⟩ := hk
  refine Cal.fn (ps := [p, q]) (bs := [a, a']) hf hfd hcode hbody hclo hglob hblt (binds2 hbind) (by simpa using h1) rfl (fun r hr => ?_) hcn ⟨b₀, hex, hb⟩ hco hgen hkind
  rcases List.mem_cons.mp hr with rfl | hr
  · exact storable_or h2
  · rw [List.mem_singleton.mp hr]; exact storable_or h3

/-- what a call made stays behind: lists that turned within it alone -/
theorem Cal.drop {f : Value} {args : List B} {d : PyData} {rs : Sto} (h : Cal c n f args σ (.val d) (σ₁ ++ rs)) (hl : σ₁.length = σ.length) : Cal c n f args σ (.val d) σ₁ := by
  intro A s W vs Q E Rm S r hQ
  refine h A s W vs Q E Rm S r fun v s' W' st S' rv => ?_
  obtain ⟨t, rfl⟩ := st.pre
  have sub : ∀ b ∈ W, b ∈ W ++ t := fun b hb => List.mem_append.mpr (.inl hb)
  refine hQ v s' W ⟨st.same, List.prefix_rfl, fun _ h1 h2 => absurd h1 h2, st.keep⟩ ⟨S'.base, S.fresh, S.nodup, by rw [hl]; exact S.len, fun i ds hi => ?_⟩ (Rep.fewer sub rv)
  have hlt : i < σ₁.length := (List.getElem?_eq_some_iff.mp hi).1
  obtain ⟨a, us, m, g1, g2, g3⟩ := S'.cell i ds (by rw [List.getElem?_append_left hlt]; exact hi)
  exact ⟨a, us, m, by rw [List.getElem?_append_left (by rw [S.len, ← hl]; exact hlt)] at g1; exact g1, g2, g3.fewer sub⟩
theorem Cal.freeze {f : Value} {args : List B} {ds : List PyData} {rs : Sto} (h : Cal c n f args σ (.cell σ.length) (σ₁ ++ ds :: rs)) (hl : σ₁.length = σ.length) : Cal c n f args σ (.val (.list ds)) σ₁ := by
  intro A s W vs Q E Rm S r hQ
  refine h A s W vs Q E Rm S r fun v s' W' st S' rv => ?_
  obtain ⟨t, rfl⟩ := st.pre
  have sub : ∀ b ∈ W, b ∈ W ++ t := fun b hb => List.mem_append.mpr (.inl hb)
  obtain ⟨a, ha, rfl⟩ := rv
  obtain ⟨a', us, m, g1, g2, g3⟩ := S'.cell σ.length ds (by rw [← hl, List.getElem?_append_right (Nat.le_refl _)]; simp)
  rw [ha] at g1; cases g1
  have haW : a ∉ W := fun hm => by
    rw [← S.len, List.getElem?_append_right (Nat.le_refl _)] at ha
    exact (List.nodup_append.mp S'.nodup).2.2 a hm a (List.mem_of_getElem? ha) rfl
  refine hQ _ s' W ⟨st.same, List.prefix_rfl, fun _ h1 h2 => absurd h1 h2, st.keep⟩ ⟨S'.base, S.fresh, S.nodup, by rw [hl]; exact S.len, fun i ds' hi => ?_⟩ (.list g2 haW (g3.fewer sub))
  have hlt : i < σ₁.length := (List.getElem?_eq_some_iff.mp hi).1
  obtain ⟨a, us, m, g1, g2, g3⟩ := S'.cell i ds' (by rw [List.getElem?_append_left hlt]; exact hi)
  exact ⟨a, us, m, by rw [List.getElem?_append_left (by rw [S.len, ← hl]; exact hlt)] at g1; exact g1, g2, g3.fewer sub⟩
end
theorem encs_length (ps : List K) : (encs ps).length = ps.length := by rw [encs_map, List.length_map]
theorem encs_append (ps qs : List K) : encs (ps ++ qs) = encs ps ++ encs qs := by simp [encs_map]
theorem encs_reverse (ps : List K) : (encs ps).reverse = encs ps.reverse := by simp [encs_map]

mutual
noncomputable def fvGo : K → List Str → List Str → List Str
  | .var x, bd, fd => if x ∈ bd ∨ x ∈ fd then fd else fd ++ [x]
  | .arr a, bd, fd => fvGo a bd fd
  | .union a b, bd, fd => fvGo b bd (fvGo a bd fd)
  | .typeof a, bd, fd => fvGo a bd fd
  | .all x hi b, bd, fd => fvGo b (bd ++ [x]) (fvGo hi bd fd)
  | .tup ps r, bd, fd => fvGoO r bd (fvGos ps bd fd)
  | .num, _, fd => fd
  | .fn, _, fd => fd
  | .bottom, _, fd => fd
  | .nm _, _, fd => fd
noncomputable def fvGos : List K → List Str → List Str → List Str
  | [], _, fd => fd
  | p :: ps, bd, fd => fvGos ps bd (fvGo p bd fd)
noncomputable def fvGoO : Option K → List Str → List Str → List Str
  | none, _, fd => fd
  | some r, bd, fd => fvGo r bd fd
end
noncomputable def freeList (k : K) : List Str := fvGo k [] []

theorem free_bottom : freeList .bottom = [] := rfl
noncomputable abbrev Stk := List (K × List Str)
noncomputable def fvAll (stk : Stk) (fd : List Str) : List Str := stk.foldl (fun fd p => fvGo p.1 p.2 fd) fd
noncomputable def tot : Stk → Nat
  | [] => 0
  | p :: r => sz p.1 + tot r
theorem tot_append (a b : Stk) : tot (a ++ b) = tot a + tot b := by
  induction a with
  | nil => exact (Nat.zero_add _).symm
  | cons p a ih => show sz p.1 + tot (a ++ b) = sz p.1 + tot a + tot b; rw [ih, Nat.add_assoc]
theorem tot_map (ps : List K) (bd : List Str) : tot (ps.map fun p => (p, bd)) = szs ps := by
  induction ps with
  | nil => rfl
  | cons p ps ih => show sz p + tot (ps.map fun p => (p, bd)) = sz p + szs ps; rw [ih]
theorem szs_append (a b : List K) : szs (a ++ b) = szs a + szs b := by
  induction a with
  | nil => exact (Nat.zero_add _).symm
  | cons p a ih => show sz p + szs (a ++ b) = sz p + szs a + szs b; rw [ih, Nat.add_assoc]
theorem tot_len (s : Stk) : s.length ≤ tot s := by
  induction s with
  | nil => exact Nat.le_refl _
  | cons p s ih => have := sz_pos p.1; show s.length + 1 ≤ sz p.1 + tot s; omega
theorem fvAll_append (a b : Stk) (fd : List Str) : fvAll (a ++ b) fd = fvAll b (fvAll a fd) := by simp [fvAll]
theorem fvAll_map (ps : List K) (bd fd : List Str) : fvAll (ps.map fun p => (p, bd)) fd = fvGos ps bd fd := by
  induction ps generalizing fd with
  | nil => rfl
  | cons p ps ih => exact ih _
theorem fvGos_append (a b : List K) (bd fd : List Str) : fvGos (a ++ b) bd fd = fvGos b bd (fvGos a bd fd) := by
  induction a generalizing fd with
  | nil => rfl
  | cons p a ih => exact ih _

noncomputable def fvNext : K → List Str → Stk → List Str → Stk × List Str
  | .var x, bd, stk, fd => (stk, fvGo (.var x) bd fd)
  | .all x hi b, bd, stk, fd => ((.bottom, bd) :: (hi, bd) :: (b, bd ++ [x]) :: stk, fd)
  | k, bd, stk, fd => ((kids k).map (fun p => (p, bd)) ++ stk, fd)
/-- what parts_of_kind yields for a kind that is no variable and no binder -/
noncomputable def plainK : K → Bool
  | .var _ => false
  | .all _ _ _ => false
  | _ => true
theorem kids_fv (k : K) (h : plainK k = true) (bd fd : List Str) : fvGos (kids k) bd fd = fvGo k bd fd := by
  cases k <;> first | (cases h; done) | rfl | skip
  rename_i ps r
  show fvGos (ps ++ r.toList) bd fd = fvGoO r bd (fvGos ps bd fd)
  rw [fvGos_append]
  cases r <;> rfl
theorem kids_sz (k : K) (h : plainK k = true) : szs (kids k) < sz k := by
  cases k <;> first | (cases h; done) | exact Nat.lt_succ_self _ | exact Nat.succ_pos _ | skip
  rename_i ps r
  show szs (ps ++ r.toList) < szs ps + szO r + 1
  rw [szs_append]
  cases r <;> exact Nat.lt_succ_self _

theorem fvNext_plain (k : K) (h : plainK k = true) (bd : List Str) (stk : Stk) (fd : List Str) : fvNext k bd stk fd = ((kids k).map (fun p => (p, bd)) ++ stk, fd) := by
  cases k <;> first | (cases h; done) | rfl
theorem fvNext_fin (k : K) (bd : List Str) (stk : Stk) (fd : List Str) : fvAll (fvNext k bd stk fd).1 (fvNext k bd stk fd).2 = fvAll ((k, bd) :: stk) fd := by
  by_cases h : plainK k = true
  · rw [fvNext_plain k h, fvAll_append, fvAll_map, kids_fv k h]; rfl
  · cases k <;> first | exact absurd rfl h | rfl
theorem fvNext_tot (k : K) (bd : List Str) (stk : Stk) (fd : List Str) : tot (fvNext k bd stk fd).1 < tot ((k, bd) :: stk) := by
  by_cases h : plainK k = true
  · rw [fvNext_plain k h, tot_append, tot_map]
    exact Nat.add_lt_add_right (kids_sz k h) _
  · cases k <;> first | exact absurd rfl h | skip
    · show tot stk < 1 + tot stk; omega
    · rename_i x hi b
      show 1 + (sz hi + (sz b + tot stk)) < sz hi + sz b + 2 + tot stk; omega
theorem fvNext_ok (k : K) (bd : List Str) (stk : Stk) (fd : List Str) : (fvNext k bd stk fd).2.length + tot (fvNext k bd stk fd).1 ≤ fd.length + tot ((k, bd) :: stk) := by
  have h2 := fvNext_tot k bd stk fd
  by_cases h : plainK k = true
  · rw [fvNext_plain k h] at h2 ⊢
    simp only at h2 ⊢; omega
  · cases k <;> first | exact absurd rfl h | skip
    · rename_i x
      show (if x ∈ bd ∨ x ∈ fd then fd else fd ++ [x]).length + tot stk ≤ fd.length + (1 + tot stk)
      split
      · omega
      · rw [List.length_append, List.length_singleton]; omega
    · exact Nat.add_le_add_left (Nat.le_of_lt h2) _

theorem fvNext_ok2 (B : Nat) (k : K) (bd : List Str) (stk : Stk) (fd : List Str) (h : ∀ p ∈ (k, bd) :: stk, p.2.length + sz p.1 ≤ B) : ∀ p ∈ (fvNext k bd stk fd).1, p.2.length + sz p.1 ≤ B := by
  have h0 := h _ (.head _)
  have h1 : ∀ p ∈ stk, p.2.length + sz p.1 ≤ B := fun p hp => h p (.tail _ hp)
  by_cases hk : plainK k = true
  · rw [fvNext_plain k hk]
    intro p hp
    rcases List.mem_append.mp hp with hp | hp
    · obtain ⟨q, hq, rfl⟩ := List.mem_map.mp hp
      have h2 := szs_mem hq
      have h3 := kids_sz k hk
      simp only at h0 ⊢; omega
    · exact h1 p hp
  · cases k <;> first | exact absurd rfl hk | skip
    · exact h1
    · rename_i x hi b
      intro p hp
      change p ∈ (K.bottom, bd) :: (hi, bd) :: (b, bd ++ [x]) :: stk at hp
      rw [List.mem_cons, List.mem_cons, List.mem_cons] at hp
      change bd.length + (sz hi + sz b + 2) ≤ B at h0
      rcases hp with rfl | rfl | rfl | hp
      · show bd.length + 1 ≤ B; omega
      · show bd.length + sz hi ≤ B; omega
      · show (bd ++ [x]).length + sz b ≤ B
        rw [List.length_append, List.length_singleton]; omega
      · exact h1 p hp

theorem plain_word (k : K) (h : plainK k = true) : ∃ w tl, enc k = .tuple (.str w :: tl) ∧ PyData.eqv (.str w) (dS "var") = false ∧ PyData.eqv (.str w) (dS "all") = false := by
  cases k <;> first | (cases h; done) | exact ⟨_, _, rfl, by kernel_rfl, by kernel_rfl⟩
theorem kids_len (k : K) : (kids k).length ≤ sz k := by
  by_cases h : plainK k = true
  · have := kids_sz k h; have := szs_len (kids k); omega
  · cases k <;> first | exact absurd rfl h | exact Nat.zero_le _

noncomputable def pe (p : K × List Str) : PyData := .tuple [enc p.1, .tuple (p.2.map .str)]

theorem Gam.skip {Γ Γ' : Gam} {y : Str} {b : B} (h0 : Γ.lookup y = none) (h : ∀ x b, Γ.lookup x = some b → Γ'.lookup x = some b) : ∀ x u, Γ.lookup x = some u → ((y, b) :: Γ').lookup x = some u := by
  intro x u e
  rw [List.lookup_cons]
  split
  · rename_i hy
    have : x = y := by simpa using hy
    subst this
    rw [h0] at e; cases e
  · exact h x u e

section
variable {c : Cx} {n : Nat} {sc : Scope} {Γ Γ' : Gam} {σ σ₁ σ₂ σ' : Sto} {t : Expr} {body : List Stmt}
theorem WhileR.run {α : Type} {inv fin : α → Sto} {μ : α → Nat} {ok : α → Prop}
    (h : ∀ a, ok a → (Tst c n sc Γ (inv a) t false (inv a) ∧ fin a = inv a) ∨ (∃ a', Tst c n sc Γ (inv a) t true (inv a) ∧ fin a' = fin a ∧ μ a' < μ a ∧ ok a' ∧ ∃ Γ', Exec c n sc Γ (inv a) body (.next Γ' (inv a')) ∧ ∀ x b, Γ.lookup x = some b → Γ'.lookup x = some b)) :
    ∀ (k : Nat) (a : α), ok a → μ a ≤ k → WhileR c n sc t body k Γ (inv a) (.next Γ (fin a)) := by
  intro k
  induction k with
  | zero =>
    intro a ha hk
    rcases h a ha with ⟨h1, h2⟩ | ⟨a', h1, h4, h5, h6, Γ', h3, h2⟩
    · rw [h2]; exact .done h1
    · omega
  | succ k ih =>
    intro a ha hk
    rcases h a ha with ⟨h1, h2⟩ | ⟨a', h1, h4, h5, h6, Γ', h3, h2⟩
    · rw [h2]; exact .done h1
    · rw [← h4]
      exact .step h1 h3 (.weaken h2 (ih a' h6 (by omega)))

theorem at0 {a b : List PyData} : (σ ++ [a, b])[σ.length]? = some a := by simp
theorem at1 {a b : List PyData} : (σ ++ [a, b])[σ.length + 1]? = some b := by simp
theorem set0 {a b x : List PyData} : (σ ++ [a, b]).set σ.length x = σ ++ [x, b] := by simp
theorem set1 {a b x : List PyData} : (σ ++ [a, b]).set (σ.length + 1) x = σ ++ [a, x] := by
  rw [List.set_append_right _ _ (by omega)]; simp
theorem neNil (L : List PyData) (x : PyData) : (!PyData.eqv (.list (L ++ [x])) (.list [])) = true := by
  cases L <;> simp [PyData.eqv, PyData.eqvAll]
theorem neNil0 : (!PyData.eqv (.list []) (.list [])) = false := by simp [PyData.eqv, PyData.eqvAll]
theorem strs_any {xs : List Str} {x : Str} : ((xs.map PyData.str).any fun y => PyData.eqv y (.str x)) = decide (x ∈ xs) := by
  induction xs with
  | nil => simp
  | cons y ys ih =>
    rw [List.map_cons, List.any_cons, ih]
    by_cases h : x = y
    · subst h; simp [PyData.eqv]
    · have : (y == x) = false := by rw [beq_eq_false_iff_ne]; exact fun e => h e.symm
      simp [PyData.eqv, h, this]
theorem strs_depth (xs : List Str) : PyData.depthAll (xs.map PyData.str) = 0 := by
  induction xs with
  | nil => rfl
  | cons y ys ih => rw [List.map_cons, PyData.depthAll, ih]; rfl
end
mutual
noncomputable def occ (x : Str) : K → Int × Bool
  | .var y => (if y = x then 1 else 0, false)
  | .union a b => (maxL [(occ x a).1, (occ x b).1], (occ x a).2 || (occ x b).2)
  | .tup ps r => (min 2 (((occs x ps ++ occO x r).map (·.1)).sum), (occs x ps ++ occO x r).any (·.2))
  | .all y hi b => ((if y = x then (0, false) else occ x b).1, (if y = x then (0, false) else occ x b).2 || decide (x ∈ freeList hi))
  | k => (0, decide (x ∈ freeList k))
noncomputable def occs (x : Str) : List K → List (Int × Bool)
  | [] => []
  | p :: ps => occ x p :: occs x ps
noncomputable def occO (x : Str) : Option K → List (Int × Bool)
  | none => []
  | some r => [occ x r, occ x r]
end
theorem occs_map (x : Str) (ps : List K) : occs x ps = ps.map (occ x) := by
  induction ps with
  | nil => rfl
  | cons p ps ih => exact congrArg (occ x p :: ·) ih
theorem occ_var (x y : Str) : occ x (.var y) = (if y = x then 1 else 0, false) := rfl
theorem occ_union (x : Str) (a b : K) : occ x (.union a b) = (maxL [(occ x a).1, (occ x b).1], (occ x a).2 || (occ x b).2) := rfl
theorem occ_tup (x : Str) (ps : List K) (r : Option K) : occ x (.tup ps r) = (min 2 (((occs x ps ++ occO x r).map (·.1)).sum), (occs x ps ++ occO x r).any (·.2)) := rfl
theorem occ_all (x y : Str) (hi b : K) : occ x (.all y hi b) = ((if y = x then (0, false) else occ x b).1, (if y = x then (0, false) else occ x b).2 || decide (x ∈ freeList hi)) := rfl
theorem occ_arr (x : Str) (a : K) : occ x (.arr a) = (0, decide (x ∈ freeList (.arr a))) := rfl
theorem occ_typeof (x : Str) (a : K) : occ x (.typeof a) = (0, decide (x ∈ freeList (.typeof a))) := rfl
theorem occO_none (x : Str) : occO x none = [] := rfl
theorem occO_some (x : Str) (r : K) : occO x (some r) = [occ x r, occ x r] := rfl
noncomputable def occD (x : Str) (k : K) : PyData := .tuple [.int (occ x k).1, .bool (occ x k).2]
noncomputable def diag (k : K) (x : Str) : Bool := decide (1 < (occ x k).1) && !(occ x k).2
mutual
noncomputable def emp : K → Bool
  | .bottom => true
  | .all _ _ b => emp b
  | .tup ps _ => emps ps
  | _ => false
noncomputable def emps : List K → Bool
  | [] => false
  | p :: ps => emp p || emps ps
end
theorem emp_tup (ps : List K) (r : Option K) : emp (.tup ps r) = emps ps := rfl
theorem emps_any (ps : List K) : emps ps = ps.any emp := by
  induction ps with
  | nil => rfl
  | cons p ps ih => show (emp p || emps ps) = _; rw [ih]; rfl
noncomputable def isBot : K → Bool
  | .bottom => true
  | _ => false
theorem eqv_bottom (k : K) : PyData.eqv (enc k) (.tuple [dS "bottom"]) = isBot k := by
  cases k with
  | bottom => decide +kernel
  | num => decide +kernel
  | fn => decide +kernel
  | _ => kernel_rfl

noncomputable def cut (k : K) (l : List K) : List K := if l.length ≤ 64 then l else [k]
noncomputable def rowStep (p : K) (cs : List K) (rows : List (List K)) : List (List K) := rows.flatMap fun row => (if 64 < rows.length * cs.length then [p] else cs).map fun q => row ++ [q]
mutual
noncomputable def lcases : K → List K
  | .union a b => cut (.union a b) (lcases a ++ lcases b)
  | .all x hi b => if diag b x then [.all x hi b] else cut (.all x hi b) ((lcases b).map fun q => .all x hi q)
  | .tup ps r => cut (.tup ps r) ((lrows ps [[]]).map fun row => .tup row r)
  | k => [k]
noncomputable def lrows : List K → List (List K) → List (List K)
  | [], rows => rows
  | p :: ps, rows => lrows ps (rowStep p (lcases p) rows)
end
theorem lcases_union (a b : K) : lcases (.union a b) = cut (.union a b) (lcases a ++ lcases b) := rfl
theorem lcases_all (x : Str) (hi b : K) : lcases (.all x hi b) = if diag b x then [.all x hi b] else cut (.all x hi b) ((lcases b).map fun q => .all x hi q) := rfl
theorem lcases_tup (ps : List K) (r : Option K) : lcases (.tup ps r) = cut (.tup ps r) ((lrows ps [[]]).map fun row => .tup row r) := rfl
noncomputable abbrev rowsD (rows : List (List K)) : PyData := .list (rows.map fun r => .tuple (encs r))

theorem lrows_fold (ps : List K) (rows : List (List K)) : lrows ps rows = ps.foldl (fun rows p => rowStep p (lcases p) rows) rows := by
  induction ps generalizing rows with
  | nil => rfl
  | cons p ps ih => exact ih _
theorem cut_len (k : K) (l : List K) : (cut k l).length ≤ 64 := by
  unfold cut; split
  · assumption
  · simp
theorem lcases_len (k : K) : (lcases k).length ≤ 64 := by
  cases k with
  | all x hi b =>
    rw [lcases_all]
    split
    · simp
    · exact cut_len ..
  | union a b => exact cut_len ..
  | tup ps r => exact cut_len ..
  | _ => exact Nat.succ_le_succ (Nat.zero_le _)
theorem flatMap_len {α β : Type} (l : List α) (f : α → List β) (n : Nat) (h : ∀ a, (f a).length = n) : (l.flatMap f).length = l.length * n := by
  induction l with
  | nil => simp
  | cons a l ih => rw [List.flatMap_cons, List.length_append, h a, ih, List.length_cons, Nat.succ_mul]; omega
theorem rowStep_len (p : K) (cs : List K) (rows : List (List K)) (h : rows.length ≤ 64) : (rowStep p cs rows).length ≤ 64 := by
  unfold rowStep
  rw [flatMap_len (n := (if 64 < rows.length * cs.length then [p] else cs).length) (h := fun a => by simp)]
  split
  · simp; exact h
  · omega
theorem lrows_len (ps : List K) (rows : List (List K)) (h : rows.length ≤ 64) : (ps.foldl (fun rows p => rowStep p (lcases p) rows) rows).length ≤ 64 := by
  induction ps generalizing rows with
  | nil => exact h
  | cons p ps ih => exact ih _ (rowStep_len _ _ _ h)
theorem Gam.swap {Γ Γ' : Gam} {x y : Str} {a b : B} (hxy : (y == x) = false) (h : ∀ z u, Γ.lookup z = some u → Γ'.lookup z = some u) : ∀ z u, ((x, a) :: (y, b) :: Γ : Gam).lookup z = some u → ((y, b) :: (x, a) :: Γ' : Gam).lookup z = some u := by
  intro z u e
  rw [List.lookup_cons, List.lookup_cons] at e
  rw [List.lookup_cons, List.lookup_cons]
  cases hx : z == x with
  | true =>
    have : z = x := by simpa using hx
    subst this
    have hzy : (z == y) = false := by
      rw [beq_eq_false_iff_ne] at hxy ⊢
      exact fun e => hxy e.symm
    simp only [hzy, hx] at e ⊢
    exact e
  | false =>
    simp only [hx] at e ⊢
    cases hy : z == y with
    | true => simp only [hy] at e ⊢; exact e
    | false => simp only [hy] at e ⊢; exact h z u e
noncomputable def tT : Str := Str.ofString "T.1"
noncomputable def sortI (ns : List Int) : List Int := ns.mergeSort (fun a b => decide (a ≤ b))
theorem sortI_perm (ns : List Int) : (sortI ns).Perm ns := List.mergeSort_perm ns _
theorem sortI_sorted (ns : List Int) : (sortI ns).Pairwise (· ≤ ·) := by
  have := List.pairwise_mergeSort (le := fun a b : Int => decide (a ≤ b)) (fun a b c h1 h2 => by simp at *; omega) (fun a b => by simp; omega) ns
  exact this.imp fun h => by simpa using h
theorem sorted_unique {ms ns : List Int} (hp : ms.Perm ns) (h1 : ms.Pairwise (· ≤ ·)) (h2 : ns.Pairwise (· ≤ ·)) : ms = ns :=
  hp.eq_of_pairwise (fun a b _ _ h3 h4 => by omega) h1 h2
theorem cal_sortI {c : Cx} {ns : List Int} (h64 : ns.length < 64) : CalR c (.builtin "sorted") [.list (ns.map .int)] (.list ((sortI ns).map .int)) :=
  cal_sorted h64 fun ms' h1 h2 => sorted_unique (h1.trans (sortI_perm ns).symm) h2 (sortI_sorted ns)
noncomputable def last3 (ns : List Int) : List Int := (sortI ns).drop ((sortI ns).length - 3)
noncomputable def metRows (found more : List Int) : List Int := found.foldl (fun rows number => rows ++ more.map fun o => min 2 (number + o)) []
theorem last3_eq (ns : List Int) : ((sortI ns).map PyData.int).drop (((sortI ns).map PyData.int).length - 3) = (last3 ns).map .int := by
  unfold last3; rw [List.length_map, List.map_drop]
theorem last3_len (ns : List Int) : (last3 ns).length ≤ 3 := by unfold last3; rw [List.length_drop]; omega
theorem metRows_len (found more : List Int) : (metRows found more).length = found.length * more.length := by
  unfold metRows
  have : ∀ rows : List Int, (found.foldl (fun rows number => rows ++ more.map fun o => min 2 (number + o)) rows).length = rows.length + found.length * more.length := by
    induction found with
    | nil => intro rows; simp
    | cons x xs ih => intro rows; rw [List.foldl_cons, ih, List.length_append, List.length_map, List.length_cons, Nat.succ_mul]; omega
  rw [this]; simp
noncomputable def twice : Option K → List K
  | none => []
  | some r => [r, r]
mutual
noncomputable def met : K → List Int
  | .var x => [if x = tT then 1 else 0]
  | .union a b => met a ++ met b
  | .all x _ b => if x = tT then [0] else met b
  | .tup ps r => metO r (mets ps [0])
  | _ => [0]
noncomputable def mets : List K → List Int → List Int
  | [], found => found
  | p :: ps, found => mets ps (last3 (metRows found (met p)))
noncomputable def metO : Option K → List Int → List Int
  | none, found => found
  | some r, found => last3 (metRows (last3 (metRows found (met r))) (met r))
end
theorem met_var (x : Str) : met (.var x) = [if x = tT then 1 else 0] := rfl
theorem met_union (a b : K) : met (.union a b) = met a ++ met b := rfl
theorem met_all (x : Str) (hi b : K) : met (.all x hi b) = if x = tT then [0] else met b := rfl
theorem met_tup (ps : List K) (r : Option K) : met (.tup ps r) = metO r (mets ps [0]) := rfl
theorem mets_fold (ps : List K) (found : List Int) : mets ps found = ps.foldl (fun found p => last3 (metRows found (met p))) found := by
  induction ps generalizing found with
  | nil => rfl
  | cons p ps ih => exact ih _
theorem metO_fold (r : Option K) (found : List Int) : metO r found = (twice r).foldl (fun found p => last3 (metRows found (met p))) found := by
  cases r <;> rfl
mutual
noncomputable def within : K → Bool
  | .union a b => within a || within b
  | .tup ps r => withins ps || withinO r
  | .all x hi b => (!(x == tT) && within b) || decide (tT ∈ freeList hi)
  | .nm h => decide (tT ∈ freeList (.nm h))
  | .arr a => decide (tT ∈ freeList (.arr a))
  | .typeof a => decide (tT ∈ freeList (.typeof a))
  | _ => false
noncomputable def withins : List K → Bool
  | [] => false
  | p :: ps => within p || withins ps
noncomputable def withinO : Option K → Bool
  | none => false
  | some r => within r
end
theorem within_var (x : Str) : within (.var x) = false := rfl
theorem within_union (a b : K) : within (.union a b) = (within a || within b) := rfl
theorem within_tup (ps : List K) (r : Option K) : within (.tup ps r) = (withins ps || withinO r) := rfl
theorem within_all (x : Str) (hi b : K) : within (.all x hi b) = ((!(x == tT) && within b) || decide (tT ∈ freeList hi)) := rfl
theorem withinO_none : withinO none = false := rfl
theorem withinO_some (r : K) : withinO (some r) = within r := rfl
theorem withins_any (ps : List K) : withins ps = ps.any within := by
  induction ps with
  | nil => rfl
  | cons p ps ih => show (within p || withins ps) = _; rw [ih]; rfl
noncomputable def renS (x y : Str) : Str := if y = x then tT else if y = tT then Str.ofString "Q.1" else y
mutual
noncomputable def named (x : Str) : K → K
  | .var y => .var (renS x y)
  | .num => .num
  | .fn => .fn
  | .bottom => .bottom
  | .nm h => .nm h
  | .arr a => .arr (named x a)
  | .union a b => .union (named x a) (named x b)
  | .typeof a => .typeof (named x a)
  | .all y hi b => if y = x then .all (Str.ofString "Z.1") (named x hi) .fn else .all (if y = tT then Str.ofString "Q.1" else y) (named x hi) (named x b)
  | .tup ps r => .tup (nameds x ps) (namedO x r)
noncomputable def nameds (x : Str) : List K → List K
  | [] => []
  | p :: ps => named x p :: nameds x ps
noncomputable def namedO (x : Str) : Option K → Option K
  | none => none
  | some r => some (named x r)
end
theorem named_var (x y : Str) : named x (.var y) = .var (renS x y) := rfl
theorem named_all (x y : Str) (hi b : K) : named x (.all y hi b) = if y = x then .all (Str.ofString "Z.1") (named x hi) .fn else .all (if y = tT then Str.ofString "Q.1" else y) (named x hi) (named x b) := rfl
theorem named_tup (x : Str) (ps : List K) (r : Option K) : named x (.tup ps r) = .tup (nameds x ps) (namedO x r) := rfl
theorem named_union (x : Str) (a b : K) : named x (.union a b) = .union (named x a) (named x b) := rfl
theorem named_arr (x : Str) (a : K) : named x (.arr a) = .arr (named x a) := rfl
theorem named_typeof (x : Str) (a : K) : named x (.typeof a) = .typeof (named x a) := rfl
theorem namedO_some (x : Str) (r : K) : namedO x (some r) = some (named x r) := rfl
theorem namedO_none (x : Str) : namedO x none = none := rfl
theorem nameds_map (x : Str) (ps : List K) : nameds x ps = ps.map (named x) := by
  induction ps with
  | nil => rfl
  | cons p ps ih => exact congrArg (named x p :: ·) ih
noncomputable def whole (x : Str) (b : K) : Bool := decide (1 < maxL (met (named x b))) && !(within (named x b))

/-- the parts' choices by their number, the last part changing first -/
noncomputable def rowAt : List (List K) → Nat → List K → List K × Nat
  | [], i, row => (row, i)
  | cs :: rest, i, row => rowAt rest (i / cs.length) ((cs[i % cs.length]?.getD .num) :: row)
noncomputable def prodLen (some : List (List K)) : Nat := some.foldl (fun m cs => m * cs.length) 1
mutual
noncomputable def casesK : K → List K
  | .union a b => casesK a ++ casesK b
  | .all x hi b => if whole x b then [.all x hi b] else (casesK b).map fun q => .all x hi q
  | .tup ps r => (List.range (prodLen (casesKs ps))).map fun i => .tup (rowAt (casesKs ps).reverse i []).1 r
  | k => [k]
noncomputable def casesKs : List K → List (List K)
  | [] => []
  | p :: ps => casesK p :: casesKs ps
end
theorem casesK_union (a b : K) : casesK (.union a b) = casesK a ++ casesK b := rfl
theorem casesK_all (x : Str) (hi b : K) : casesK (.all x hi b) = if whole x b then [.all x hi b] else (casesK b).map fun q => .all x hi q := rfl
theorem casesK_tup (ps : List K) (r : Option K) : casesK (.tup ps r) = (List.range (prodLen (casesKs ps))).map fun i => .tup (rowAt (casesKs ps).reverse i []).1 r := rfl
theorem rowAt_cons (cs : List K) (rest : List (List K)) (i : Nat) (row : List K) : rowAt (cs :: rest) i row = rowAt rest (i / cs.length) ((cs[i % cs.length]?.getD .num) :: row) := rfl
theorem casesKs_map (ps : List K) : casesKs ps = ps.map casesK := by
  induction ps with
  | nil => rfl
  | cons p ps ih => exact congrArg (casesK p :: ·) ih
theorem bin_modN {c : Cx} {a b : Nat} (h : 0 < b) : BinR c .Mod (.int (a : Int)) (.int (b : Int)) (.int ((a % b : Nat) : Int)) := by
  rw [Int.natCast_emod]; exact bin_mod (by omega)
theorem bin_divN {c : Cx} {a b : Nat} (h : 0 < b) (h1 : b < 1000000000) : BinR c .FloorDiv (.int (a : Int)) (.int (b : Int)) (.int ((a / b : Nat) : Int)) := by
  rw [Int.natCast_ediv]; exact bin_div (by omega) (by omega)
theorem bin_mulN {c : Cx} {a b : Nat} (h : b < 1000000000) : BinR c .Mult (.int (a : Int)) (.int (b : Int)) (.int ((a * b : Nat) : Int)) := by
  rw [Int.natCast_mul]; exact bin_mul (IntMulOk.of_right (intBits_le_64 (by omega) (by omega)))
theorem ForR.foldS {c : Cx} {n : Nat} {sc : Scope} {body : List Stmt} {α β : Type} {f : α → PyData} {stepF : β → α → β} {G : β → Gam} {S : β → Sto} {ok : List α → β → Prop} {x : Str} : ∀ {ps : List α},
    (∀ p rest, p ∈ ps → ∀ s, ok (p :: rest) s → ok rest (stepF s p) ∧ ∃ Γ', Exec c n sc ((x, .val (f p)) :: G s) (S s) body (.next Γ' (S (stepF s p))) ∧ (∀ y b, (G (stepF s p)).lookup y = some b → Γ'.lookup y = some b)) →
    ∀ s, ok ps s → ForR c n sc x body (ps.map f) (G s) (S s) (.next (G (ps.foldl stepF s)) (S (ps.foldl stepF s)))
  | [], _, s, _ => .nil
  | p :: ps, h, s, hs => by
    obtain ⟨h1, Γ', h2, h3⟩ := h p ps (.head _) s hs
    exact .cons h2 (.weaken h3 (ForR.foldS (fun q rest hq => h q rest (.tail _ hq)) _ h1))
theorem rowAt_fold (css : List (List K)) (i : Nat) (row : List K) : css.foldl (fun (s : List K × Nat) cs => ((cs[s.2 % cs.length]?.getD .num) :: s.1, s.2 / cs.length)) (row, i) = rowAt css i row := by
  induction css generalizing i row with
  | nil => rfl
  | cons cs css ih => exact ih _ _
theorem rowAt_len (css : List (List K)) (i : Nat) (row : List K) : (rowAt css i row).1.length = css.length + row.length := by
  induction css generalizing i row with
  | nil => exact (Nat.zero_add _).symm
  | cons cs css ih => rw [rowAt_cons, ih, List.length_cons, List.length_cons, Nat.add_assoc, Nat.add_comm 1]
theorem prod_pos (css : List (List K)) (h : ∀ cs ∈ css, cs ≠ []) : 0 < prodLen css := by
  unfold prodLen
  have : ∀ m, 0 < m → 0 < css.foldl (fun m cs => m * cs.length) m := by
    induction css with
    | nil => exact fun m h => h
    | cons cs css ih =>
      intro m hm
      exact ih (fun q hq => h q (.tail _ hq)) _ (Nat.mul_pos hm (List.length_pos_iff.mpr (h cs (.head _))))
  exact this 1 (by decide)
theorem prod_ge (css : List (List K)) (h : ∀ cs ∈ css, cs ≠ []) : ∀ cs ∈ css, cs.length ≤ prodLen css := by
  unfold prodLen
  have mono : ∀ (css : List (List K)) (m : Nat), (∀ cs ∈ css, cs ≠ []) → m ≤ css.foldl (fun m cs => m * cs.length) m := by
    intro css
    induction css with
    | nil => exact fun m _ => Nat.le_refl _
    | cons cs css ih =>
      intro m h
      have h1 := List.length_pos_iff.mpr (h cs (.head _))
      exact Nat.le_trans (Nat.le_mul_of_pos_right _ h1) (ih _ fun q hq => h q (.tail _ hq))
  have : ∀ m, 0 < m → ∀ cs ∈ css, cs.length ≤ css.foldl (fun m cs => m * cs.length) m := by
    induction css with
    | nil => exact fun m _ cs hc => nomatch hc
    | cons c0 css ih =>
      intro m hm cs hc
      have h1 := List.length_pos_iff.mpr (h c0 (.head _))
      rcases List.mem_cons.mp hc with rfl | hc
      · exact Nat.le_trans (Nat.le_mul_of_pos_left _ hm) (mono css _ fun q hq => h q (.tail _ hq))
      · exact ih (fun q hq => h q (.tail _ hq)) _ (Nat.mul_pos hm h1) cs hc
  exact this 1 (by decide)
theorem cases_ne : ∀ k : K, casesK k ≠ [] := by
  intro k
  induction k using K.ind with
  | union a b iha ihb => rw [casesK_union]; simp [iha]
  | all x hi b _ ihb => rw [casesK_all]; split <;> simp [ihb]
  | tup ps r ihp _ =>
    have h : 0 < prodLen (casesKs ps) := by
      rw [casesKs_map]
      refine prod_pos _ fun cs hcs => ?_
      obtain ⟨p, hp, rfl⟩ := List.mem_map.mp hcs
      exact ihp p hp
    intro h2
    have : (casesK (.tup ps r)).length = prodLen (casesKs ps) := by rw [casesK_tup]; simp
    rw [h2] at this; simp at this; omega
  | _ => exact List.cons_ne_nil _ _
theorem cases_tup_len (ps : List K) (r : Option K) : (casesK (.tup ps r)).length = prodLen (casesKs ps) := by rw [casesK_tup]; simp
theorem cases_part (ps : List K) (r : Option K) (p : K) (hp : p ∈ ps) : (casesK p).length ≤ (casesK (.tup ps r)).length := by
  rw [cases_tup_len, casesKs_map]
  refine prod_ge _ (fun cs hcs => ?_) _ (List.mem_map_of_mem hp)
  obtain ⟨q, _, rfl⟩ := List.mem_map.mp hcs
  exact cases_ne q
theorem mx {a b a' b' : Nat} (h1 : a ≤ a') (h2 : b ≤ b') : max a b ≤ max a' b' := Nat.max_le.mpr ⟨Nat.le_trans h1 (Nat.le_max_left _ _), Nat.le_trans h2 (Nat.le_max_right _ _)⟩
theorem hgt_named (x : Str) : ∀ k : K, hgt (named x k) ≤ hgt k := by
  intro k
  induction k using K.ind with
  | all y hi b ihhi ihb =>
    rw [named_all]
    split
    · exact Nat.succ_le_succ (mx ihhi (Nat.zero_le _))
    · exact Nat.succ_le_succ (mx ihhi ihb)
  | arr a ih => exact Nat.succ_le_succ ih
  | typeof a ih => exact Nat.succ_le_succ ih
  | union a b ih1 ih2 => exact Nat.succ_le_succ (mx ih1 ih2)
  | tup ps r ihp ihr =>
    have h1 : hgts (nameds x ps) ≤ hgts ps := by
      clear ihr
      induction ps with
      | nil => exact Nat.le_refl _
      | cons p ps ih => exact mx (ihp p (.head _)) (ih fun q hq => ihp q (.tail _ hq))
    have h2 : hgtO (namedO x r) ≤ hgtO r := by
      cases r with
      | none => exact Nat.le_refl _
      | some r => exact ihr r rfl
    exact Nat.succ_le_succ (mx h1 h2)
  | _ => exact Nat.le_refl _
theorem sz_named (x : Str) : ∀ k : K, sz (named x k) ≤ sz k := by
  intro k
  induction k using K.ind with
  | all y hi b ihhi ihb =>
    rw [named_all]
    split
    · exact Nat.add_le_add_right (Nat.add_le_add ihhi (sz_pos b)) 2
    · exact Nat.add_le_add_right (Nat.add_le_add ihhi ihb) 2
  | arr a ih => exact Nat.add_le_add_right ih 2
  | typeof a ih => exact Nat.add_le_add_right ih 1
  | union a b ih1 ih2 => exact Nat.add_le_add_right (Nat.add_le_add ih1 ih2) 1
  | tup ps r ihp ihr =>
    have h1 : szs (nameds x ps) ≤ szs ps := by
      clear ihr
      induction ps with
      | nil => exact Nat.le_refl _
      | cons p ps ih => exact Nat.add_le_add (ihp p (.head _)) (ih fun q hq => ihp q (.tail _ hq))
    have h2 : szO (namedO x r) ≤ szO r := by
      cases r with
      | none => exact Nat.le_refl _
      | some r => exact ihr r rfl
    exact Nat.add_le_add_right (Nat.add_le_add h1 h2) 1
  | _ => exact Nat.le_refl _

theorem foldl_len3 (ps : List K) (found : List Int) (h : found.length ≤ 3) : (ps.foldl (fun found p => last3 (metRows found (met p))) found).length ≤ 3 := by
  induction ps generalizing found with
  | nil => exact h
  | cons p ps ih => exact ih _ (last3_len _)
theorem pw3 (n : Nat) : 3 ≤ 3 * 2 ^ n := Nat.le_mul_of_pos_right 3 (Nat.pow_pos (by decide))
theorem pw1 (n : Nat) : 1 ≤ 3 * 2 ^ n := Nat.le_trans (by decide) (pw3 n)
theorem pwS {a n m : Nat} (h : a ≤ 3 * 2 ^ n) (hm : n ≤ m) : a ≤ 3 * 2 ^ m := Nat.le_trans h (Nat.mul_le_mul_left 3 (Nat.pow_le_pow_right (by decide) hm))
theorem pw2 {a b n : Nat} (h1 : a ≤ 3 * 2 ^ n) (h2 : b ≤ 3 * 2 ^ n) : a + b ≤ 3 * 2 ^ (n + 1) := by rw [Nat.pow_succ]; omega
theorem met_len : ∀ k : K, (met k).length ≤ 3 * 2 ^ hgt k := by
  intro k
  induction k using K.ind with
  | union a b iha ihb =>
    rw [met_union, List.length_append]
    exact pw2 (pwS iha (Nat.le_max_left _ _)) (pwS ihb (Nat.le_max_right _ _))
  | all x hi b _ ihb =>
    rw [met_all]
    split
    · exact pw1 _
    · exact pwS ihb (Nat.le_succ_of_le (Nat.le_max_right _ _))
  | tup ps r _ _ =>
    rw [met_tup, mets_fold, metO_fold, ← List.foldl_append]
    exact Nat.le_trans (foldl_len3 (ps ++ twice r) [0] (by decide)) (pw3 _)
  | _ => exact pw1 _
theorem metRows_ne {found more : List Int} (h1 : found ≠ []) (h2 : more ≠ []) : metRows found more ≠ [] := by
  intro h
  have := metRows_len found more
  rw [h] at this
  have h3 := List.length_pos_iff.mpr h1
  have h4 := List.length_pos_iff.mpr h2
  have := Nat.mul_pos h3 h4
  simp at *; omega
theorem last3_ne {ns : List Int} (h : ns ≠ []) : last3 ns ≠ [] := by
  intro h'
  have h1 := List.length_pos_iff.mpr h
  have h2 : (last3 ns).length = 0 := by rw [h']; rfl
  unfold last3 at h2
  rw [List.length_drop, (sortI_perm ns).length_eq] at h2
  omega
theorem met_ne : ∀ k : K, met k ≠ [] := by
  intro k
  induction k using K.ind with
  | union a b iha ihb => rw [met_union]; simp [iha]
  | all x hi b _ ihb => rw [met_all]; split <;> simp [ihb]
  | tup ps r ihp ihr =>
    rw [met_tup, mets_fold, metO_fold, ← List.foldl_append]
    have h : ∀ p ∈ ps ++ twice r, met p ≠ [] := by
      intro p hp
      rcases List.mem_append.mp hp with hp | hp
      · exact ihp p hp
      · cases r with
        | none => cases hp
        | some r =>
          simp [twice] at hp
          rw [hp]; exact ihr r rfl
    generalize ps ++ twice r = qs at h
    have : ∀ found : List Int, found ≠ [] → qs.foldl (fun found p => last3 (metRows found (met p))) found ≠ [] := by
      induction qs with
      | nil => exact fun _ h => h
      | cons q qs ih => exact fun found hf => ih (fun p hp => h p (.tail _ hp)) _ (last3_ne (metRows_ne hf (h q (.head _))))
    exact this [0] (by simp)
  | _ => exact List.cons_ne_nil _ _
noncomputable def wordK : K → Str
  | .var _ => Str.ofString "var"
  | .num => Str.ofString "n"
  | .fn => Str.ofString "fn"
  | .bottom => Str.ofString "bottom"
  | .nm _ => Str.ofString "name"
  | .arr _ => Str.ofString "name"
  | .union _ _ => Str.ofString "union"
  | .typeof _ => Str.ofString "typeof"
  | .all _ _ _ => Str.ofString "all"
  | .tup _ _ => Str.ofString "tuple"
theorem enc_word (k : K) : ∃ tl, enc k = .tuple (.str (wordK k) :: tl) := by cases k <;> exact ⟨_, rfl⟩
noncomputable def lfw : K → Bool
  | .var _ => false
  | .union _ _ => false
  | .all _ _ _ => false
  | .tup _ _ => false
  | _ => true
theorem word_no (k : K) (h : lfw k = true) : PyData.eqv (.str (wordK k)) (dS "var") = false ∧ PyData.eqv (.str (wordK k)) (dS "union") = false ∧ PyData.eqv (.str (wordK k)) (dS "all") = false ∧ PyData.eqv (.str (wordK k)) (dS "tuple") = false := by
  cases k <;> first | (cases h; done) | (exact ⟨by kernel_rfl, by kernel_rfl⟩) | (exact ⟨by kernel_rfl, by kernel_rfl, by kernel_rfl, by kernel_rfl⟩)
noncomputable def notTA : K → Bool
  | .all _ _ _ => false
  | .tup _ _ => false
  | _ => true
theorem word_no2 (k : K) (h : notTA k = true) : PyData.eqv (.str (wordK k)) (dS "all") = false ∧ PyData.eqv (.str (wordK k)) (dS "tuple") = false := by
  cases k <;> first | (cases h; done) | (exact ⟨by kernel_rfl, by kernel_rfl⟩) | (exact ⟨by kernel_rfl, by kernel_rfl, by kernel_rfl, by kernel_rfl⟩)
theorem emp_notTA (k : K) (h : notTA k = true) : isBot k = emp k := by
  cases k <;> first | (cases h; done) | rfl
theorem gt1 {x n : Nat} (h : x + 1 ≤ n) : ∃ m, n = m + 1 := ⟨n - 1, by omega⟩
theorem gt2 {x n : Nat} (h : x + 2 ≤ n) : ∃ m, n = m + 2 := ⟨n - 2, by omega⟩
theorem gt3 {x n : Nat} (h : x + 3 ≤ n) : ∃ m, n = m + 3 := ⟨n - 3, by omega⟩
theorem gt4 {x n : Nat} (h : x + 4 ≤ n) : ∃ m, n = m + 4 := ⟨n - 4, by omega⟩
theorem cmp_ne_same {c : Cx} {a : PyData} (hd : a.depth ≤ 60) : CmpR c .NotEq a a false := by
  intro A s v u Q E as bs R ra ka rb kb h
  exact cmp_ne (Nat.le_trans (Nat.min_le_left _ _) hd) (by rw [PySem.SeqAt.eqv_refl a ka]; rfl) A s v u Q E as bs R ra ka rb kb h
theorem cmp_eq_same {c : Cx} {a : PyData} (hd : a.depth ≤ 60) : CmpR c .Eq a a true := by
  intro A s v u Q E as bs R ra ka rb kb h
  exact cmp_eq (Nat.le_trans (Nat.min_le_left _ _) hd) (PySem.SeqAt.eqv_refl a ka) A s v u Q E as bs R ra ka rb kb h

theorem depthAll_le {xs : List PyData} {n : Nat} (h : ∀ x ∈ xs, x.depth ≤ n) : PyData.depthAll xs ≤ n := by
  induction xs with
  | nil => exact Nat.zero_le _
  | cons x xs ih =>
    rw [PyData.depthAll]
    exact Nat.max_le.mpr ⟨h x (.head _), ih fun y hy => h y (.tail _ hy)⟩
theorem dCons {x : PyData} {xs : List PyData} {n : Nat} (h1 : x.depth ≤ n) (h2 : PyData.depthAll xs ≤ n) : PyData.depthAll (x :: xs) ≤ n := Nat.max_le.mpr ⟨h1, h2⟩
theorem dNil {n : Nat} : PyData.depthAll [] ≤ n := Nat.zero_le _
theorem dStr {x : Str} {n : Nat} : (PyData.str x).depth ≤ n := Nat.zero_le _
theorem dInt {x : Int} {n : Nat} : (PyData.int x).depth ≤ n := Nat.zero_le _
theorem dTup {xs : List PyData} {n : Nat} (h : PyData.depthAll xs ≤ n) : (PyData.tuple xs).depth ≤ n + 1 := by rw [PyData.depth]; first | exact Nat.succ_le_succ h | (rw [Nat.add_comm]; exact Nat.succ_le_succ h)
theorem d3 {a b : Nat} (h : a ≤ b) : 3 * a + 3 ≤ 3 * b + 3 + 2 := by omega
theorem depth_enc : ∀ k : K, (enc k).depth ≤ 3 * hgt k + 3 := by
  intro k
  induction k using K.ind with
  | var x => exact dTup (dCons dStr (dCons dStr dNil))
  | num => exact dTup (dCons dStr (dCons dInt dNil))
  | fn => exact dTup (dCons dStr (dCons dStr dNil))
  | bottom => exact dTup (dCons dStr dNil)
  | nm h => exact dTup (dCons dStr (dCons dStr (dCons (dTup dNil) dNil)))
  | arr a ih => exact dTup (n := 3 * hgt a + 3 + 2) (dCons dStr (dCons dStr (dCons (dTup (n := 3 * hgt a + 3 + 1) (dCons (Nat.le_succ_of_le ih) (dCons (dTup (dCons dStr (dCons dInt dNil))) dNil))) dNil)))
  | union a b iha ihb => exact dTup (n := 3 * max (hgt a) (hgt b) + 3 + 2) (dCons dStr (dCons (Nat.le_succ_of_le (dTup (n := 3 * max (hgt a) (hgt b) + 3) (dCons (Nat.le_trans iha (Nat.add_le_add_right (Nat.mul_le_mul_left 3 (Nat.le_max_left _ _)) 3)) (dCons (Nat.le_trans ihb (Nat.add_le_add_right (Nat.mul_le_mul_left 3 (Nat.le_max_right _ _)) 3)) dNil)))) dNil))
  | typeof a ih => exact dTup (n := 3 * hgt a + 3 + 2) (dCons dStr (dCons (Nat.le_succ_of_le (Nat.le_succ_of_le ih)) dNil))
  | all x hi b ihhi ihb => exact dTup (n := 3 * max (hgt hi) (hgt b) + 3 + 2) (dCons dStr (dCons dStr (dCons (dTup (dCons dStr dNil)) (dCons (Nat.le_trans ihhi (d3 (Nat.le_max_left _ _))) (dCons (Nat.le_trans ihb (d3 (Nat.le_max_right _ _))) dNil)))))
  | tup ps r ihp ihr =>
    have h1 : PyData.depthAll (encs ps) ≤ 3 * hgts ps + 3 := by
      rw [encs_map]
      refine depthAll_le fun x hx => ?_
      obtain ⟨p, hp, rfl⟩ := List.mem_map.mp hx
      exact Nat.le_trans (ihp p hp) (Nat.add_le_add_right (Nat.mul_le_mul_left 3 (hgts_mem hp)) 3)
    have h2 : (encO r).depth ≤ 3 * hgtO r + 3 := by
      cases r with
      | none => exact Nat.zero_le _
      | some r => exact ihr r rfl
    exact dTup (n := 3 * max (hgts ps) (hgtO r) + 3 + 2) (dCons dStr (dCons (Nat.le_succ_of_le (dTup (n := 3 * max (hgts ps) (hgtO r) + 3) (Nat.le_trans h1 (Nat.add_le_add_right (Nat.mul_le_mul_left 3 (Nat.le_max_left _ _)) 3)))) (dCons (Nat.le_trans h2 (d3 (Nat.le_max_right _ _))) dNil)))
theorem rowAt_mem (n : Nat) (css : List (List K)) (h : ∀ cs ∈ css, ∀ q ∈ cs, hgt q ≤ n) (i : Nat) (row : List K) (hr : ∀ q ∈ row, hgt q ≤ n) : ∀ q ∈ (rowAt css i row).1, hgt q ≤ n := by
  induction css generalizing i row with
  | nil => exact hr
  | cons cs css ih =>
    refine ih (fun c hc => h c (.tail _ hc)) _ _ fun q hq => ?_
    rcases List.mem_cons.mp hq with rfl | hq
    · cases e : cs[i % cs.length]? with
      | none => exact Nat.zero_le _
      | some q => exact h cs (.head _) q (List.mem_of_getElem? e)
    · exact hr q hq
theorem hgts_le {ps : List K} {n : Nat} (h : ∀ p ∈ ps, hgt p ≤ n) : hgts ps ≤ n := by
  induction ps with
  | nil => exact Nat.zero_le _
  | cons p ps ih =>
    exact Nat.max_le.mpr ⟨h p (.head _), ih fun q hq => h q (.tail _ hq)⟩
theorem cases_hgt : ∀ k : K, ∀ q ∈ casesK k, hgt q ≤ hgt k := by
  intro k
  induction k using K.ind with
  | union a b iha ihb =>
    intro q hq
    rw [casesK_union] at hq
    rcases List.mem_append.mp hq with hq | hq
    · exact Nat.le_succ_of_le (Nat.le_trans (iha q hq) (Nat.le_max_left _ _))
    · exact Nat.le_succ_of_le (Nat.le_trans (ihb q hq) (Nat.le_max_right _ _))
  | all x hi b _ ihb =>
    intro q hq
    rw [casesK_all] at hq
    split at hq
    · rw [List.mem_singleton.mp hq]; exact Nat.le_refl _
    · obtain ⟨q', hq', rfl⟩ := List.mem_map.mp hq
      exact Nat.succ_le_succ (mx (Nat.le_refl _) (ihb q' hq'))
  | tup ps r ihp _ =>
    intro q hq
    rw [casesK_tup] at hq
    obtain ⟨i, _, rfl⟩ := List.mem_map.mp hq
    have : hgts (rowAt (casesKs ps).reverse i []).1 ≤ hgts ps := by
      refine hgts_le (rowAt_mem _ _ (fun cs hcs q hq => ?_) _ _ fun q hq => nomatch hq)
      rw [List.mem_reverse, casesKs_map] at hcs
      obtain ⟨p, hp, rfl⟩ := List.mem_map.mp hcs
      exact Nat.le_trans (ihp p hp q hq) (hgts_mem hp)
    exact Nat.succ_le_succ (mx this (Nat.le_refl _))
  | _ => intro q hq; cases hq with
    | head => exact Nat.le_refl _
    | tail _ h => cases h
theorem cases_depth (k : K) (h : hgt k ≤ 4) : (PyData.list ((casesK k).map enc)).depth ≤ 60 := by
  rw [PyData.depth]
  have : PyData.depthAll ((casesK k).map enc) ≤ 3 * hgt k + 3 := depthAll_le fun x hx => by
    obtain ⟨q, hq, rfl⟩ := List.mem_map.mp hx
    have := depth_enc q
    have := cases_hgt k q hq
    omega
  omega
noncomputable def itemK : K := .var tT
noncomputable def textK : K := .nm (Str.ofString "String")
noncomputable def pairK : K := .union itemK textK
noncomputable def sevenK : K := .tup [pairK, pairK, pairK, pairK, pairK, pairK, pairK] none
noncomputable def wholeK : K := .all tT (.nm (Str.ofString "Any")) (.tup [pairK, itemK] none)
noncomputable def likePair (k : K) : Bool := PyData.eqv (enc k) (enc pairK)
noncomputable def chk7 : K → Bool
  | .tup ps none => ps.length == 7 && ((ps.take 6).all fun q => !likePair q) && ((ps.drop 6).all likePair)
  | _ => false
theorem seven_len : (lcases sevenK).length = 64 := by decide +kernel
theorem seven_chk : (lcases sevenK).all chk7 = true := by decide +kernel
theorem whole_lc : lcases wholeK = [wholeK] := by
  have : diag (.tup [pairK, itemK] none) tT = true := by decide +kernel
  rw [wholeK, lcases_all, if_pos this]
theorem occ_k1 : occ tT (.tup [] (some itemK)) = (2, false) := by decide +kernel
theorem diag_k2 : diag (.tup [pairK] none) tT = false := by decide +kernel
theorem chk7_eq {k : K} (h : chk7 k = true) : ∃ ps g, k = .tup ps none ∧ 6 < ps.length ∧ ps.length ≤ 7 ∧ ps[6]? = some g ∧ PyData.eqv (enc g) (enc pairK) = true ∧ ((encs ps).take 6).any (fun y => PyData.eqv y (enc pairK)) = false := by
  cases k with
  | tup ps r =>
    cases r with
    | none =>
      change (ps.length == 7 && ((ps.take 6).all fun q => !likePair q) && ((ps.drop 6).all likePair)) = true at h
      rw [Bool.and_eq_true, Bool.and_eq_true] at h
      obtain ⟨⟨h1, h2⟩, h3⟩ := h
      have hl : ps.length = 7 := by simpa using h1
      have hg : 6 < ps.length := by omega
      refine ⟨ps, ps[6], rfl, hg, Nat.le_of_eq hl, List.getElem?_eq_getElem hg, ?_, ?_⟩
      · refine List.all_eq_true.mp h3 _ ?_
        rw [List.drop_eq_getElem_cons hg]; exact .head _
      · rw [encs_map, ← List.map_take, List.any_map]
        rw [List.any_eq_false]
        intro q hq
        have := List.all_eq_true.mp h2 q hq
        simpa [likePair] using this
    | some r => cases h
  | _ => cases h
theorem C1.none {c : Cx} {n : Nat} {sc : Scope} {Γ : Gam} {σ : Sto} {e : Expr} {ifs : List Expr} {α : Type} {ps : List α} {f : α → PyData} {x : Str} {ds : List PyData} (q : ds = ps.map f) (h : ∀ p ∈ ps, ∀ τ, Tsts c n sc ((x, .val (f p)) :: Γ) (σ ++ [τ]) ifs false (σ ++ [τ])) : C1 c n sc x ifs e Γ ds σ [] σ := by
  subst q
  induction ps with
  | nil => exact .nil
  | cons p ps ih => exact .skip (h p (.head _)) rfl (ih fun p hp => h p (.tail _ hp))
theorem maxL_eq {ns : List Int} {m : Int} (hm : m ∈ ns) (hle : ∀ a ∈ ns, a ≤ m) : maxL ns = m := by
  have h1 := maxL_le hm
  have h2 := hle _ (maxL_mem (List.ne_nil_of_mem hm))
  omega
theorem mem_metRows {found more : List Int} {x : Int} : x ∈ metRows found more ↔ ∃ a ∈ found, ∃ o ∈ more, x = min 2 (a + o) := by
  unfold metRows
  have : ∀ rows : List Int, x ∈ found.foldl (fun rows number => rows ++ more.map fun o => min 2 (number + o)) rows ↔ x ∈ rows ∨ ∃ a ∈ found, ∃ o ∈ more, x = min 2 (a + o) := by
    induction found with
    | nil => intro rows; simp
    | cons y ys ih =>
      intro rows
      rw [List.foldl_cons, ih, List.mem_append, List.mem_map]
      constructor
      · rintro ((h | ⟨o, ho, rfl⟩) | ⟨a, ha, o, ho, h⟩)
        · exact .inl h
        · exact .inr ⟨y, .head _, o, ho, rfl⟩
        · exact .inr ⟨a, .tail _ ha, o, ho, h⟩
      · rintro (h | ⟨a, ha, o, ho, h⟩)
        · exact .inl (.inl h)
        · rcases List.mem_cons.mp ha with rfl | ha
          · exact .inl (.inr ⟨o, ho, h.symm⟩)
          · exact .inr ⟨a, ha, o, ho, h⟩
  rw [this]; simp
theorem mem_last3 {ns : List Int} {x : Int} (h : x ∈ last3 ns) : x ∈ ns := (sortI_perm ns).mem_iff.mp (List.mem_of_mem_drop h)
theorem maxL_last3 {ns : List Int} (h : ns ≠ []) : maxL (last3 ns) = maxL ns := by
  have hm := maxL_mem (last3_ne h)
  refine (maxL_eq (mem_last3 hm) fun a ha => ?_).symm
  have ha' := (sortI_perm ns).mem_iff.mpr ha
  have hs := sortI_sorted ns
  rw [← List.take_append_drop ((sortI ns).length - 3) (sortI ns)] at ha' hs
  rcases List.mem_append.mp ha' with h1 | h1
  · exact (List.pairwise_append.mp hs).2.2 a h1 _ hm
  · exact maxL_le h1
theorem maxL_metRows {found more : List Int} (h1 : found ≠ []) (h2 : more ≠ []) : maxL (metRows found more) = min 2 (maxL found + maxL more) := by
  refine maxL_eq (mem_metRows.mpr ⟨_, maxL_mem h1, _, maxL_mem h2, rfl⟩) fun x hx => ?_
  obtain ⟨a, ha, o, ho, rfl⟩ := mem_metRows.mp hx
  have := maxL_le ha
  have := maxL_le ho
  omega
theorem maxL_append {a b : List Int} (h1 : a ≠ []) (h2 : b ≠ []) : maxL (a ++ b) = max (maxL a) (maxL b) := by
  by_cases h : maxL a ≤ maxL b
  · refine maxL_eq ?_ fun x hx => ?_
    · rw [show max (maxL a) (maxL b) = maxL b by omega]; exact List.mem_append.mpr (.inr (maxL_mem h2))
    · rcases List.mem_append.mp hx with hx | hx <;> have := maxL_le hx <;> omega
  · refine maxL_eq ?_ fun x hx => ?_
    · rw [show max (maxL a) (maxL b) = maxL a by omega]; exact List.mem_append.mpr (.inl (maxL_mem h1))
    · rcases List.mem_append.mp hx with hx | hx <;> have := maxL_le hx <;> omega

theorem occ_sum (qs : List K) (h : ∀ q ∈ qs, 0 ≤ (occ tT q).1) : 0 ≤ (qs.map fun q => (occ tT q).1).sum := by
  induction qs with
  | nil => simp
  | cons q qs ih =>
    have h1 := h q (.head _)
    have h2 := ih fun p hp => h p (.tail _ hp)
    rw [List.map_cons, List.sum_cons]; omega
theorem min_step {a b s : Int} (hb : 0 ≤ b) (hs : 0 ≤ s) : min 2 (min 2 (a + b) + s) = min 2 (a + (b + s)) := by omega
theorem met_fold {qs : List K} (h : ∀ q ∈ qs, (occ tT q).1 = maxL (met q) ∧ 0 ≤ maxL (met q)) : ∀ found : List Int, found ≠ [] → 0 ≤ maxL found → maxL found ≤ 2 →
    maxL (qs.foldl (fun found p => last3 (metRows found (met p))) found) = min 2 (maxL found + (qs.map fun q => (occ tT q).1).sum) := by
  induction qs with
  | nil => intro found h1 h2 h3; simp; omega
  | cons q qs ih =>
    intro found h1 h2 h3
    obtain ⟨e, hq⟩ := h q (.head _)
    have hr := metRows_ne h1 (met_ne q)
    have e1 : maxL (last3 (metRows found (met q))) = min 2 (maxL found + maxL (met q)) := by rw [maxL_last3 hr, maxL_metRows h1 (met_ne q)]
    rw [List.foldl_cons, ih (fun p hp => h p (.tail _ hp)) _ (last3_ne hr) (by omega) (by omega), e1, List.map_cons, List.sum_cons, e]
    have hs := occ_sum qs fun p hp => by rw [(h p (.tail _ hp)).1]; exact (h p (.tail _ hp)).2
    exact min_step hq hs
theorem occ_list (x : Str) (ps : List K) (r : Option K) : occs x ps ++ occO x r = (ps ++ twice r).map (occ x) := by
  rw [occs_map, List.map_append]
  cases r <;> rfl
theorem occ_met : ∀ k : K, (occ tT k).1 = maxL (met k) ∧ 0 ≤ maxL (met k) ∧ maxL (met k) ≤ 2 ∧ (occ tT k).2 = within k := by
  intro k
  have leaf : maxL [(0 : Int)] = 0 := rfl
  induction k using K.ind with
  | var y =>
    by_cases h : y = tT
    · rw [occ_var, met_var, within_var]; simp [h, maxL]
    · rw [occ_var, met_var, within_var]; simp [h, maxL]
  | num => exact ⟨rfl, by decide, by decide, rfl⟩
  | fn => exact ⟨rfl, by decide, by decide, rfl⟩
  | bottom => exact ⟨rfl, by decide, by decide, rfl⟩
  | nm h => exact ⟨rfl, (by decide : (0:Int) ≤ 0), (by decide : (0:Int) ≤ 2), rfl⟩
  | arr a _ => exact ⟨rfl, (by decide : (0:Int) ≤ 0), (by decide : (0:Int) ≤ 2), rfl⟩
  | typeof a _ => exact ⟨rfl, (by decide : (0:Int) ≤ 0), (by decide : (0:Int) ≤ 2), rfl⟩
  | union a b iha ihb =>
    obtain ⟨a1, a2, a3, a4⟩ := iha
    obtain ⟨b1, b2, b3, b4⟩ := ihb
    have e : maxL (met (.union a b)) = max (maxL (met a)) (maxL (met b)) := by rw [met_union]; exact maxL_append (met_ne a) (met_ne b)
    rw [e]
    refine ⟨?_, by omega, by omega, ?_⟩
    · rw [occ_union]; simp [a1, b1, maxL]
    · rw [occ_union, within_union]; simp [a4, b4]
  | all x hi b _ ihb =>
    obtain ⟨b1, b2, b3, b4⟩ := ihb
    by_cases h : x = tT
    · rw [occ_all, met_all, within_all]; simp [h, maxL]
    · refine ⟨?_, ?_, ?_, ?_⟩
      · rw [occ_all, met_all]; simp [h, b1]
      · rw [met_all]; simp [h, b2]
      · rw [met_all]; simp [h, b3]
      · have hx : (x == tT) = false := by rw [beq_eq_false_iff_ne]; exact h
        rw [occ_all, within_all]; simp [h, b4, hx]
  | tup ps r ihp ihr =>
    have hq : ∀ q ∈ ps ++ twice r, (occ tT q).1 = maxL (met q) ∧ 0 ≤ maxL (met q) ∧ maxL (met q) ≤ 2 ∧ (occ tT q).2 = within q := by
      intro q hq
      rcases List.mem_append.mp hq with hq | hq
      · exact ihp q hq
      · cases r with
        | none => cases hq
        | some r =>
          simp [twice] at hq
          rw [hq]; exact ihr r rfl
    have e : maxL (met (.tup ps r)) = min 2 (((ps ++ twice r).map fun q => (occ tT q).1).sum) := by
      rw [met_tup, mets_fold, metO_fold, ← List.foldl_append, met_fold (fun q h => ⟨(hq q h).1, (hq q h).2.1⟩) [0] (by simp) (by decide) (by decide), leaf]
      simp
    have hs := occ_sum (ps ++ twice r) fun q h => by have := hq q h; omega
    refine ⟨?_, by omega, by omega, ?_⟩
    · rw [e, occ_tup, occ_list, List.map_map]; rfl
    · rw [occ_tup, occ_list, within_tup, withins_any]
      have : ∀ q ∈ ps ++ twice r, (occ tT q).2 = within q := fun q h => (hq q h).2.2.2
      rw [show (((ps ++ twice r).map (occ tT)).any (·.2)) = (ps ++ twice r).any within from ?_]
      · rw [List.any_append]
        cases r <;> simp [twice, withinO_none, withinO_some]
      · rw [List.any_map]
        generalize ps ++ twice r = qs at this
        clear hq e hs
        induction qs with
        | nil => rfl
        | cons q qs ih =>
          rw [List.any_cons, List.any_cons, ih fun p hp => this p (.tail _ hp)]
          simp [this q (.head _)]
theorem fact1 (k : K) : occ tT k = (maxL (met k), within k) := by
  obtain ⟨h1, _, _, h4⟩ := occ_met k
  rw [← h1, ← h4]
theorem mem_fv : ∀ (k : K) (bd fd : List Str) (z : Str), z ∈ fvGo k bd fd ↔ z ∈ fd ∨ (z ∉ bd ∧ z ∈ freeList k) := by
  intro k
  have none : ∀ (bd fd : List Str) (z : Str), z ∈ fd ↔ z ∈ fd ∨ (z ∉ bd ∧ z ∈ ([] : List Str)) := fun bd fd z => by simp
  induction k using K.ind with
  | var y =>
    intro bd fd z
    change z ∈ (if y ∈ bd ∨ y ∈ fd then fd else fd ++ [y]) ↔ z ∈ fd ∨ (z ∉ bd ∧ z ∈ [y])
    rw [List.mem_singleton]
    split
    · rename_i h
      constructor
      · exact .inl
      · rintro (h1 | ⟨h1, rfl⟩)
        · exact h1
        · rcases h with h | h
          · exact absurd h h1
          · exact h
    · rename_i h
      rw [List.mem_append, List.mem_singleton]
      constructor
      · rintro (h1 | rfl)
        · exact .inl h1
        · exact .inr ⟨fun h2 => h (.inl h2), rfl⟩
      · rintro (h1 | ⟨_, rfl⟩)
        · exact .inl h1
        · exact .inr rfl
  | num => exact none
  | fn => exact none
  | bottom => exact none
  | nm h => exact none
  | arr a ih => exact ih
  | typeof a ih => exact ih
  | union a b iha ihb =>
    intro bd fd z
    change z ∈ fvGo b bd (fvGo a bd fd) ↔ z ∈ fd ∨ (z ∉ bd ∧ z ∈ fvGo b [] (fvGo a [] []))
    rw [ihb, iha, ihb [], iha []]
    simp only [List.not_mem_nil, not_false_eq_true, true_and, false_or]
    constructor
    · rintro ((h | ⟨h1, h2⟩) | ⟨h1, h2⟩)
      · exact .inl h
      · exact .inr ⟨h1, .inl h2⟩
      · exact .inr ⟨h1, .inr h2⟩
    · rintro (h | ⟨h1, h2 | h2⟩)
      · exact .inl (.inl h)
      · exact .inl (.inr ⟨h1, h2⟩)
      · exact .inr ⟨h1, h2⟩
  | all x hi b ihh ihb =>
    intro bd fd z
    change z ∈ fvGo b (bd ++ [x]) (fvGo hi bd fd) ↔ z ∈ fd ∨ (z ∉ bd ∧ z ∈ fvGo b ([] ++ [x]) (fvGo hi [] []))
    rw [ihb, ihh, ihb, ihh []]
    simp only [List.not_mem_nil, not_false_eq_true, true_and, false_or, List.nil_append, List.mem_append, List.mem_singleton, not_or]
    constructor
    · rintro ((h | ⟨h1, h2⟩) | ⟨⟨h1, h3⟩, h2⟩)
      · exact .inl h
      · exact .inr ⟨h1, .inl h2⟩
      · exact .inr ⟨h1, .inr ⟨h3, h2⟩⟩
    · rintro (h | ⟨h1, h2 | ⟨h3, h2⟩⟩)
      · exact .inl (.inl h)
      · exact .inl (.inr ⟨h1, h2⟩)
      · exact .inr ⟨⟨h1, h3⟩, h2⟩
  | tup ps r ihp ihr =>
    have hs : ∀ (bd fd : List Str) (z : Str), z ∈ fvGos ps bd fd ↔ z ∈ fd ∨ (z ∉ bd ∧ z ∈ fvGos ps [] []) := by
      clear ihr
      induction ps with
      | nil => exact none
      | cons p ps ih =>
        intro bd fd z
        have i1 := ihp p (.head _)
        have i2 := ih fun q hq => ihp q (.tail _ hq)
        change z ∈ fvGos ps bd (fvGo p bd fd) ↔ z ∈ fd ∨ (z ∉ bd ∧ z ∈ fvGos ps [] (fvGo p [] []))
        rw [i2, i1, i2 [] (fvGo p [] []), i1 []]
        simp only [List.not_mem_nil, not_false_eq_true, true_and, false_or]
        constructor
        · rintro ((h | ⟨h1, h2⟩) | ⟨h1, h2⟩)
          · exact .inl h
          · exact .inr ⟨h1, .inl h2⟩
          · exact .inr ⟨h1, .inr h2⟩
        · rintro (h | ⟨h1, h2 | h2⟩)
          · exact .inl (.inl h)
          · exact .inl (.inr ⟨h1, h2⟩)
          · exact .inr ⟨h1, h2⟩
    intro bd fd z
    cases r with
    | none => exact hs bd fd z
    | some r =>
      have i1 := ihr r rfl
      change z ∈ fvGo r bd (fvGos ps bd fd) ↔ z ∈ fd ∨ (z ∉ bd ∧ z ∈ fvGo r [] (fvGos ps [] []))
      rw [i1, hs, i1 [], hs [] []]
      simp only [List.not_mem_nil, not_false_eq_true, true_and, false_or]
      constructor
      · rintro ((h | ⟨h1, h2⟩) | ⟨h1, h2⟩)
        · exact .inl h
        · exact .inr ⟨h1, .inl h2⟩
        · exact .inr ⟨h1, .inr h2⟩
      · rintro (h | ⟨h1, h2 | h2⟩)
        · exact .inl (.inl h)
        · exact .inl (.inr ⟨h1, h2⟩)
        · exact .inr ⟨h1, h2⟩

theorem free_union (a b : K) (z : Str) : z ∈ freeList (.union a b) ↔ z ∈ freeList a ∨ z ∈ freeList b := by
  show z ∈ fvGo b [] (fvGo a [] []) ↔ _
  rw [mem_fv]; simp; rfl
theorem free_all (x : Str) (hi b : K) (z : Str) : z ∈ freeList (.all x hi b) ↔ z ∈ freeList hi ∨ (z ≠ x ∧ z ∈ freeList b) := by
  show z ∈ fvGo b ([] ++ [x]) (fvGo hi [] []) ↔ _
  rw [mem_fv]; simp; rfl
theorem mem_fvs : ∀ (ps : List K) (fd : List Str) (z : Str), z ∈ fvGos ps [] fd ↔ z ∈ fd ∨ ∃ p ∈ ps, z ∈ freeList p
  | [], fd, z => by show z ∈ fd ↔ _; simp
  | p :: ps, fd, z => by
    show z ∈ fvGos ps [] (fvGo p [] fd) ↔ _
    rw [mem_fvs ps, mem_fv]
    simp [or_assoc]
theorem free_tup (ps : List K) (r : Option K) (z : Str) : z ∈ freeList (.tup ps r) ↔ (∃ p ∈ ps, z ∈ freeList p) ∨ ∃ q, r = some q ∧ z ∈ freeList q := by
  cases r with
  | none =>
    show z ∈ fvGos ps [] [] ↔ _
    rw [mem_fvs]; simp
  | some r =>
    show z ∈ fvGo r [] (fvGos ps [] []) ↔ _
    rw [mem_fv, mem_fvs]; simp
theorem free_var (y z : Str) : z ∈ freeList (.var y) ↔ z = y := by show z ∈ [y] ↔ _; simp

theorem renS_tT (x y : Str) : renS x y = tT ↔ y = x := by
  unfold renS
  constructor
  · intro h
    split at h
    · assumption
    · split at h
      · exact absurd h (by decide +kernel)
      · rename_i h1; exact absurd h h1
  · intro h; rw [if_pos h]
theorem free_named (x : Str) : ∀ k : K, tT ∈ freeList (named x k) ↔ x ∈ freeList k := by
  intro k
  induction k using K.ind with
  | var y =>
    rw [named_var, free_var, free_var]
    constructor
    · intro h; exact ((renS_tT x y).mp h.symm).symm
    · intro h; exact ((renS_tT x y).mpr h.symm).symm
  | num => exact ⟨fun h => (nomatch h), fun h => (nomatch h)⟩
  | fn => exact ⟨fun h => (nomatch h), fun h => (nomatch h)⟩
  | bottom => exact ⟨fun h => (nomatch h), fun h => (nomatch h)⟩
  | nm h => exact ⟨fun h => (nomatch h), fun h => (nomatch h)⟩
  | arr a ih => exact ih
  | typeof a ih => exact ih
  | union a b iha ihb => rw [named_union, free_union, free_union, iha, ihb]
  | all y hi b ihh ihb =>
    rw [named_all]
    split
    · rename_i h
      rw [free_all, free_all, ihh]
      have : tT ∉ freeList K.fn := fun h => nomatch h
      simp [h, this]
    · rename_i h
      rw [free_all, free_all, ihh, ihb]
      have h1 : tT ≠ (if y = tT then Str.ofString "Q.1" else y) := by
        split
        · decide +kernel
        · rename_i h1; exact fun e => h1 e.symm
      have h2 : x ≠ y := fun e => h e.symm
      simp [h1, h2]
  | tup ps r ihp ihr =>
    rw [named_tup, free_tup, free_tup, nameds_map]
    have e1 : (∃ p ∈ ps.map (named x), tT ∈ freeList p) ↔ ∃ p ∈ ps, x ∈ freeList p := by
      constructor
      · rintro ⟨q, hq, h⟩
        obtain ⟨p, hp, rfl⟩ := List.mem_map.mp hq
        exact ⟨p, hp, (ihp p hp).mp h⟩
      · rintro ⟨p, hp, h⟩
        exact ⟨_, List.mem_map_of_mem hp, (ihp p hp).mpr h⟩
    rw [e1]
    cases r with
    | none => simp [namedO_none]
    | some r => simp [namedO_some, ihr r rfl]
theorem occ_named (x : Str) : ∀ k : K, occ tT (named x k) = occ x k := by
  intro k
  induction k using K.ind with
  | var y =>
    rw [named_var, occ_var, occ_var]
    by_cases h : y = x
    · rw [if_pos h, if_pos ((renS_tT x y).mpr h)]
    · rw [if_neg h, if_neg fun e => h ((renS_tT x y).mp e)]
  | num => rfl
  | fn => rfl
  | bottom => rfl
  | nm h => rfl
  | arr a ih =>
    have := free_named x (.arr a)
    rw [named_arr] at this
    rw [named_arr, occ_arr, occ_arr]
    simp only [this]
  | typeof a ih =>
    have := free_named x (.typeof a)
    rw [named_typeof] at this
    rw [named_typeof, occ_typeof, occ_typeof]
    simp only [this]
  | union a b iha ihb => rw [named_union, occ_union, occ_union, iha, ihb]
  | all y hi b ihh ihb =>
    have hf := free_named x hi
    rw [named_all]
    split
    · rename_i h
      have h2 : Str.ofString "Z.1" ≠ tT := by decide +kernel
      have h3 : occ tT .fn = (0, false) := rfl
      simp only [occ_all, h, if_true, if_neg h2, hf, h3]
    · rename_i h
      have h1 : (if y = tT then Str.ofString "Q.1" else y) ≠ tT := by
        split
        · decide +kernel
        · assumption
      simp only [occ_all, if_neg h, if_neg h1, hf, ihb]
  | tup ps r ihp ihr =>
    rw [named_tup, occ_tup, occ_tup]
    have e1 : occs tT (nameds x ps) = occs x ps := by
      rw [occs_map, occs_map, nameds_map, List.map_map]
      exact List.map_congr_left fun p hp => ihp p hp
    have e2 : occO tT (namedO x r) = occO x r := by
      cases r with
      | none => rfl
      | some r => simp only [namedO_some, occO_some, ihr r rfl]
    rw [e1, e2]
theorem fact2 (b : K) (x : Str) : diag b x = whole x b := by
  unfold diag whole
  rw [← occ_named x b, fact1]
theorem range_mul {α : Type} (f : Nat → α) (m n : Nat) : (List.range (m * n)).map f = (List.range m).flatMap fun i => (List.range n).map fun j => f (i * n + j) := by
  induction m with
  | zero => simp
  | succ m ih =>
    rw [Nat.succ_mul, List.range_add, List.map_append, ih, List.range_succ, List.flatMap_append]
    simp
theorem map_range {α β : Type} (l : List α) (d : α) (g : α → β) : l.map g = (List.range l.length).map fun j => g (l[j]?.getD d) := by
  apply List.ext_getElem
  · simp
  · intro i h1 h2
    have : i < l.length := by simpa using h1
    simp [this]
theorem rowAt_app (css : List (List K)) (i : Nat) (row : List K) : (rowAt css i row).1 = (rowAt css i []).1 ++ row := by
  induction css generalizing i row with
  | nil => rfl
  | cons cs css ih =>
    rw [rowAt_cons, rowAt_cons, ih, ih (i / cs.length) [_], List.append_assoc]; rfl
noncomputable def rowsOf (css : List (List K)) : List (List K) := (List.range (prodLen css)).map fun i => (rowAt css.reverse i []).1
theorem prodLen_snoc (css : List (List K)) (cs : List K) : prodLen (css ++ [cs]) = prodLen css * cs.length := by simp [prodLen]
theorem rowsOf_len (css : List (List K)) : (rowsOf css).length = prodLen css := by simp [rowsOf]
theorem rowsOf_snoc (css : List (List K)) (cs : List K) : rowsOf (css ++ [cs]) = (rowsOf css).flatMap fun row => cs.map fun q => row ++ [q] := by
  rw [rowsOf, prodLen_snoc, range_mul, rowsOf, List.flatMap_map]
  congr 1
  funext i
  rw [map_range cs .num]
  apply List.map_congr_left
  intro j hj
  have hj : j < cs.length := List.mem_range.mp hj
  rw [List.reverse_append, List.reverse_singleton, List.singleton_append, rowAt_cons, rowAt_app]
  have e1 : (i * cs.length + j) / cs.length = i := by
    rw [Nat.add_comm, Nat.add_mul_div_right _ _ (by omega), Nat.div_eq_of_lt hj, Nat.zero_add]
  have e2 : (i * cs.length + j) % cs.length = j := by
    rw [Nat.add_comm, Nat.add_mul_mod_self_right, Nat.mod_eq_of_lt hj]
  rw [e1, e2]
theorem prod_mono (css es : List (List K)) (h : ∀ cs ∈ es, cs ≠ []) : prodLen css ≤ prodLen (css ++ es) := by
  unfold prodLen
  rw [List.foldl_append]
  generalize css.foldl (fun m cs => m * cs.length) 1 = m
  induction es generalizing m with
  | nil => exact Nat.le_refl _
  | cons c es ih =>
    exact Nat.le_trans (Nat.le_mul_of_pos_right _ (List.length_pos_iff.mpr (h c (.head _)))) (ih (fun q hq => h q (.tail _ hq)) _)
theorem lrows_rows (ps : List K) (h : ∀ p ∈ ps, lcases p = casesK p) : ∀ pre : List (List K), prodLen (pre ++ ps.map casesK) ≤ 64 →
    ps.foldl (fun rows p => rowStep p (lcases p) rows) (rowsOf pre) = rowsOf (pre ++ ps.map casesK) := by
  induction ps with
  | nil => intro pre _; simp
  | cons p ps ih =>
    intro pre hl
    have e : pre ++ (p :: ps).map casesK = (pre ++ [casesK p]) ++ ps.map casesK := by simp
    rw [e] at hl ⊢
    have h1 : prodLen (pre ++ [casesK p]) ≤ 64 := Nat.le_trans (prod_mono _ _ fun cs hcs => by
      obtain ⟨q, _, rfl⟩ := List.mem_map.mp hcs
      exact cases_ne q) hl
    rw [← ih (fun q hq => h q (.tail _ hq)) _ hl, List.foldl_cons, rowsOf_snoc, h p (.head _)]
    unfold rowStep
    rw [prodLen_snoc] at h1
    rw [rowsOf_len, if_neg (by omega)]
theorem cut_id (k : K) (l : List K) (h : l.length ≤ 64) : cut k l = l := if_pos h
theorem fact3 : ∀ k : K, (casesK k).length ≤ 64 → lcases k = casesK k := by
  intro k
  induction k using K.ind with
  | union a b iha ihb =>
    intro h
    have h' := h
    rw [casesK_union, List.length_append] at h'
    rw [lcases_union, casesK_union, iha (Nat.le_trans (Nat.le_add_right _ _) h'), ihb (Nat.le_trans (Nat.le_add_left _ _) h')]
    exact cut_id _ _ h
  | all x hi b _ ihb =>
    intro h
    rw [lcases_all, fact2, casesK_all]
    cases hw : whole x b with
    | true => rfl
    | false =>
      have h' := h
      simp only [casesK_all, hw, Bool.false_eq_true, if_false, List.length_map] at h'
      simp only [Bool.false_eq_true, if_false]
      rw [ihb h']
      exact cut_id _ _ (by rw [List.length_map]; exact h')
  | tup ps r ihp _ =>
    intro h
    have hp : ∀ p ∈ ps, lcases p = casesK p := fun p hp => ihp p hp (Nat.le_trans (cases_part ps r p hp) h)
    rw [cases_tup_len, casesKs_map] at h
    have e := lrows_rows ps hp [] h
    have e0 : rowsOf [] = [[]] := rfl
    rw [e0, List.nil_append] at e
    rw [lcases_tup, lrows_fold, e, casesK_tup, casesKs_map, rowsOf, List.map_map]
    exact cut_id _ _ (by simp; exact h)
  | _ => intro _; rfl

noncomputable def lfK : K → Bool
  | .var _ => true
  | .nm _ => true
  | .fn => true
  | .bottom => true
  | _ => false
/-- what the law builds with so many floors -/
inductive Gen : Nat → K → Prop
  | leaf (f : Nat) (k : K) : lfK k = true → Gen f k
  | arr {f : Nat} {a : K} : Gen f a → Gen (f + 1) (.arr a)
  | union {f : Nat} {a b : K} : Gen f a → Gen f b → Gen (f + 1) (.union a b)
  | typeof {f : Nat} {a : K} : Gen f a → Gen (f + 1) (.typeof a)
  | all {f : Nat} {x : Str} {hi b : K} : lfK hi = true → Gen f b → Gen (f + 1) (.all x hi b)
  | tup {f : Nat} {ps : List K} {r : Option K} : ps.length ≤ 2 → (∀ p ∈ ps, Gen f p) → (∀ q, r = some q → Gen f q) → Gen (f + 1) (.tup ps r)

noncomputable def topC : Nat → Nat
  | 0 => 1
  | f + 1 => max (2 * topC f) (topC f * topC f)
noncomputable def topS : Nat → Nat
  | 0 => 1
  | f + 1 => 3 * topS f + 3
theorem topC_pos (f : Nat) : 1 ≤ topC f := by
  induction f with
  | zero => exact Nat.le_refl _
  | succ f ih => exact Nat.le_trans (Nat.le_trans ih (Nat.le_mul_of_pos_left _ (by decide))) (Nat.le_max_left _ _)
theorem topS_pos (f : Nat) : 1 ≤ topS f := by
  induction f with
  | zero => exact Nat.le_refl _
  | succ f ih => exact Nat.succ_le_succ (Nat.zero_le _)
theorem leaf_sizes {k : K} (h : lfK k = true) : hgt k = 0 ∧ sz k = 1 ∧ (casesK k).length = 1 := by
  cases k <;> first | (cases h; done) | exact ⟨rfl, rfl, rfl⟩
theorem szs_le {ps : List K} {n : Nat} (h : ∀ p ∈ ps, sz p ≤ n) : szs ps ≤ ps.length * n := by
  induction ps with
  | nil => exact Nat.zero_le _
  | cons p ps ih =>
    have h1 := h p (.head _)
    have h2 := ih fun q hq => h q (.tail _ hq)
    show sz p + szs ps ≤ (ps.length + 1) * n
    rw [Nat.succ_mul, Nat.add_comm]
    exact Nat.add_le_add h2 h1
theorem topC_two (f : Nat) {n : Nat} (h : n ≤ 2 * topC f) : n ≤ topC (f + 1) := Nat.le_trans h (Nat.le_max_left _ _)
theorem topC_sq (f : Nat) {n : Nat} (h : n ≤ topC f * topC f) : n ≤ topC (f + 1) := Nat.le_trans h (Nat.le_max_right _ _)
theorem topC_le (f : Nat) {n : Nat} (h : n ≤ topC f) : n ≤ topC (f + 1) := topC_two f (Nat.le_trans h (Nat.le_mul_of_pos_left _ (by decide)))
theorem s1 {x s : Nat} (h : x ≤ s) : x + 2 ≤ 3 * s + 3 := by omega
theorem s2 {x y s : Nat} (h : x ≤ s) (h' : y ≤ s) : x + y + 1 ≤ 3 * s + 3 := by omega
theorem s3 {x y s : Nat} (h : x ≤ 2 * s) (h' : y ≤ s) : x + y + 1 ≤ 3 * s + 3 := by omega
theorem Gen.sizes {f : Nat} {k : K} (g : Gen f k) : hgt k ≤ f ∧ sz k ≤ topS f ∧ (casesK k).length ≤ topC f := by
  induction g with
  | leaf f k h =>
    obtain ⟨h1, h2, h3⟩ := leaf_sizes h
    exact ⟨h1 ▸ Nat.zero_le _, h2 ▸ topS_pos f, h3 ▸ topC_pos f⟩
  | @arr f a _ ih => exact ⟨Nat.succ_le_succ ih.1, s1 ih.2.1, topC_pos _⟩
  | @typeof f a _ ih => exact ⟨Nat.succ_le_succ ih.1, Nat.le_of_succ_le (s1 ih.2.1), topC_pos _⟩
  | @union f a b _ _ iha ihb =>
    refine ⟨Nat.succ_le_succ (Nat.max_le.mpr ⟨iha.1, ihb.1⟩), s2 iha.2.1 ihb.2.1, topC_two f ?_⟩
    rw [casesK_union, List.length_append, Nat.two_mul]
    exact Nat.add_le_add iha.2.2 ihb.2.2
  | @all f x hi b h _ ih =>
    obtain ⟨h1, h2, h3⟩ := leaf_sizes h
    refine ⟨Nat.succ_le_succ (Nat.max_le.mpr ⟨h1 ▸ Nat.zero_le _, ih.1⟩), ?_, ?_⟩
    · show sz hi + sz b + 2 ≤ _
      rw [h2, Nat.add_comm 1]
      exact Nat.add_le_add_right (Nat.le_trans ih.2.1 (Nat.le_mul_of_pos_left _ (by decide))) 3
    · rw [casesK_all]
      split
      · exact topC_pos _
      · rw [List.length_map]; exact topC_le f ih.2.2
  | @tup f ps r hl _ _ ihp ihr =>
    have h1 : hgts ps ≤ f := hgts_le fun p hp => (ihp p hp).1
    have h2 : szs ps ≤ 2 * topS f := Nat.le_trans (szs_le fun p hp => (ihp p hp).2.1) (Nat.mul_le_mul_right _ hl)
    have h3 : hgtO r ≤ f ∧ szO r ≤ topS f := by
      cases r with
      | none => exact ⟨Nat.zero_le _, Nat.zero_le _⟩
      | some r => exact ⟨(ihr r rfl).1, (ihr r rfl).2.1⟩
    refine ⟨Nat.succ_le_succ (Nat.max_le.mpr ⟨h1, h3.1⟩), s3 h2 h3.2, ?_⟩
    rw [cases_tup_len, casesKs_map]
    clear h1 h2 h3 ihr
    match ps, hl, ihp with
    | [], _, _ => exact topC_pos _
    | [p], _, ihp =>
      refine topC_le f ?_
      simp only [prodLen, List.map, List.foldl, Nat.one_mul]
      exact (ihp p (.head _)).2.2
    | [p, q], _, ihp =>
      refine topC_sq f ?_
      simp only [prodLen, List.map, List.foldl, Nat.one_mul]
      exact Nat.mul_le_mul (ihp p (.head _)).2.2 (ihp q (.tail _ (.head _))).2.2
    | p :: q :: u :: ps, hl, _ => exact absurd hl (by simp)
theorem Gen.sizes3 {k : K} (g : Gen 3 k) : hgt k ≤ 3 ∧ sz k ≤ 100000 ∧ (casesK k).length ≤ 16 := by
  obtain ⟨h1, h2, h3⟩ := g.sizes
  have e1 : topS 3 = 66 := rfl
  have e2 : topC 3 = 16 := rfl
  omega
section
variable {c : Cx} {n : Nat} {sc : Scope} {Γ : Gam} {σ σ₁ σ₂ : Sto} {e l r : Expr} {pos pos2 : Pos} {a : Addr} {vs : List Value} {ns : List Int}
theorem ints_read {h : Heap} : ∀ {vs : List Value} {ns : List Int}, IntsAre vs ns → ∃ as, ReadsAll h vs (ns.map .int) as
  | _, _, .nil => ⟨_, .nil⟩
  | _, _, .cons m t r => by
    obtain ⟨as, q⟩ := ints_read (h := h) r
    exact ⟨_, .cons (.int m t) q⟩
theorem ints_at : ∀ {vs : List Value} {ns : List Int} {i : Nat} {m : Int}, IntsAre vs ns → ns[i]? = some m → ∃ t, vs[i]? = some (.int m t)
  | _, _, i, m, .nil, h => nomatch h
  | _, _, 0, m, .cons k t r, h => by
    rw [List.getElem?_cons_zero] at h
    cases h
    exact ⟨t, rfl⟩
  | _, _, i + 1, m, .cons k t r, h => by
    rw [List.getElem?_cons_succ] at h ⊢
    exact ints_at r h
theorem list_keep {h h' : Heap} (hL : h.IsList a vs.toArray) (k : ∀ b o, h.get? b = some o → h'.get? b = some o) : h'.IsList a vs.toArray := by
  obtain ⟨o, e, x⟩ := hL
  exact ⟨o, k _ _ e, x⟩
theorem canLay_ints (ns : List Int) : PyData.canLayAll0 (ns.map .int) = true := by
  induction ns with
  | nil => simp [PyData.canLayAll0]
  | cons n ns ih => simp [PyData.canLayAll0, PyData.canLay0, ih]
/-- an item of the script -/
theorem Ev.rawItem {i m : Int} (h₁ : Ev c n sc Γ σ l (.raw (.ref a)) σ₁) (h₂ : Ev c n sc Γ σ₁ r (.val (.int i)) σ₂) (hL : c.hb.IsList a vs.toArray) (hI : IntsAre vs ns)
    (h0 : 0 ≤ i) (h1 : i < 2 ^ 62) (hy : ns[i.toNat]? = some m) (hs : ∀ o i, subscripted r false o i = operate [o, i] (getItem o i)) : Ev c n sc Γ σ (.Subscript l r pos) (.val (.int m)) σ₂ := by
  refine ⟨?_⟩
  intro A env s W Q E R V S hQ
  refine Subscript_ (h₁.run A env s W _ _ R V S fun v s' W' st S' rv => ?_)
  refine h₂.run A env s' W' _ _ R (V.move (st.moves S.lists) st.pre) S' fun u s'' W'' st' S'' ru => ?_
  cases rv
  cases ru with
  | int _ t =>
    have hL' := list_keep hL S''.base
    obtain ⟨t', hz⟩ := ints_at hI hy
    refine tail_any (T := "list") hL'.typeIs slot_list_getitem.lookup (wpAny_getItem_list (x := .int m t') hL' h0 (by omega) (by simpa using hz) ?_) (hs _ _)
    exact hQ _ _ W'' (st.trans st') S'' (.int _ _)
/-- the script is not empty -/
theorem Tst.rawNe (h₁ : Ev c n sc Γ σ l (.raw (.ref a)) σ₁) (hL : c.hb.IsList a vs.toArray) (hI : IntsAre vs ns) :
    Tst c n sc Γ σ (.Compare l [.NotEq] [.List [] pos2] pos) (!ns.isEmpty) σ₁ := by
  refine ⟨?_⟩
  intro A env s W Q E R V S hQ
  refine wpAny_isTrue_Compare1 (h₁.run A env s W _ _ R V S fun v s' W' st S' rv => ?_) rfl
  have h₂ : Ev c n sc Γ σ₁ (.List [] pos2) (.val (.list [])) σ₁ := Ev.list (ds := []) Evs.vnil (by decide)
  refine h₂.run A env s' W' _ _ R (V.move (st.moves S.lists) st.pre) S' fun u s'' W'' st' S'' ru => ?_
  cases rv
  obtain ⟨⟨bs, q2⟩, k2⟩ := S''.shows (b := .val (.list [])) ru rfl
  obtain ⟨o, e, hc, cap, hd⟩ := list_keep hL S''.base
  obtain ⟨as, q⟩ := ints_read (h := s''.heap) hI
  have hr : Reads s''.heap (.ref a) (.list (ns.map .int)) _ := .list e hc hd (by simpa using q)
  refine cmp_ne (c := c) (res := !ns.isEmpty) (Nat.le_trans (Nat.min_le_right _ _) (by decide)) ?_ A s'' _ _ _ _ _ _ R.zero hr (by simp [PyData.canLay0, canLay_ints]) q2 k2 (wpAny_truthy_bool (hQ _ W'' (st.trans st') S''))
  cases ns <;> simp [PyData.eqv, PyData.eqvAll]
end
local macro_rules | `(tactic| ksl_open $t:ident) => `(tactic| with_reducible apply $t:ident)
local macro_rules | `(tactic| kso_open $t:ident) => `(tactic| with_reducible exact $t:ident)
local macro_rules | `(tactic| kln_le) => `(tactic| first
  | decide
  | exact Nat.le_trans (Nat.min_le_left _ _) (by decide)
  | exact Nat.le_trans (Nat.min_le_right _ _) (by decide)
  | exact Nat.le_trans (Nat.min_le_right _ _) (Nat.zero_le _)
  | exact Nat.le_trans (Nat.min_le_left _ _) (Nat.zero_le _))
local macro_rules | `(tactic| ktn_open) => `(tactic| first
  | rfl
  | assumption)
local macro_rules | `(tactic| kcj_in) => `(tactic| first
  | decide +kernel
  | assumption
  | with_reducible rfl
  | exact rfl)
local macro_rules | `(tactic| kt_ors) => `(tactic| first
  | ksl_open cmp_eq; kln_le; kcj_in
  | ksl_open cmp_ne; kln_le; kcj_in
  | ksl_open cmp_in_list; kln_le; kcj_in
  | ksl_open cmp_in_tuple; kln_le; kcj_in
  | ksl_open cmp_notIn_list; kln_le; kcj_in
  | ksl_open cmp_notIn_tuple; kln_le; kcj_in
  | ksl_open cmp_is; kcj_in
  | ksl_open cmp_isNot; kcj_in
  | ksl_open cmp_le; kcj_in
  | ksl_open cmp_lt; kcj_in
  | ksl_open cmp_ge; kcj_in
  | (ksl_open cmp_gt; kcj_in))
local macro_rules | `(tactic| kt_len) => `(tactic| first
  | decide
  | assumption
  | solve_by_elim
  | (simp only [sizeLine, List.length_cons, List.length_nil, List.length_append, List.length_map, List.length_reverse]; omega))
local macro_rules | `(tactic| kqd_sub) => `(tactic| first
  | kso_open Evs.vnil
  | ksl_open Evs.vcons; rfl; kqd_in; kqd_sub
  | kso_open Evs.nil
  | (ksl_open Evs.cons; kqd_in; kqd_sub; rfl))
local macro_rules | `(tactic| kt_eqs) => `(tactic| first
  | kso_open bin_add
  | kso_open bin_sub
  | ksl_open bin_cat_list; kt_len
  | ksl_open bin_cat_tuple; kt_len
  | ksl_open bin_mod; decide
  | ksl_open bin_div; decide; decide
  | ksl_open bin_mul; mul_fits
  | kso_open bin_pow
  | ksl_open bin_two; kt_len
  | (ksl_open bin_seven; kt_len))
local macro_rules | `(tactic| kat_tups) => `(tactic| first
  | ksl_open cal_list_tuple; kt_len
  | ksl_open cal_list_list; kt_len
  | ksl_open cal_tuple_list; kt_len
  | kso_open cal_tuple_tuple
  | ksl_open cal_len_list; kt_len
  | kso_open cal_int_int
  | kso_open cal_int_bool
  | kso_open cal_min
  | kso_open cal_sum
  | kso_open cal_sums
  | ksl_open cal_sortI; assumption
  | ksl_open cal_maxs; focus (simp; done)
  | (ksl_open cal_maxL; assumption))
local macro_rules | `(tactic| kst_in) => `(tactic| first
  | kso_open Evs.nil
  | (ksl_open Evs.cons; kqd_in; kst_in; rfl))
local macro_rules | `(tactic| kd_mem) => `(tactic| (kp_flats; ksl_open CompG.one; kd_p1; rfl; rfl; kt_len; decide; rfl; rfl; exact fun _ _ => rfl; decide))
local macro_rules | `(tactic| kd_p1) => `(tactic| (ksl_open C1.maps; (first | assumption | exact encs_map _ | with_reducible rfl); intro p hp τ; kqd_in))
local macro_rules | `(tactic| kp_flats) => `(tactic| first
  | ksl_open EvIt.tuple; kqd_in
  | (ksl_open EvIt.list; kqd_in))
local macro_rules | `(tactic| kqd_in) => `(tactic| first
  | kso_open Ev.cint
  | ksl_open Ev.cstr; kernel_rfl
  | kso_open Ev.cbool
  | kso_open Ev.cnone
  | ksl_open Ev.name; rfl; decide
  | ksl_open Ev.item; kqd_in; kqd_in; (first | exact .inl rfl | exact .inl (by assumption)); decide; decide; rfl; exact fun _ _ => rfl
  | ksl_open Ev.item; kqd_in; kqd_in; exact .inr rfl; decide; decide; rfl; exact fun _ _ => rfl
  | ksl_open Ev.gval; rfl; rfl; (first | exact bottom_rep _ | exact Rep.int _ _); decide
  | ((with_reducible apply Ev.tuple (ds := _))); kqd_sub; kt_len
  | ((with_reducible apply Ev.list (ds := _))); kqd_sub; kt_len
  | ksl_open Ev.bin; kqd_in; kqd_in; kt_eqs
  | ksl_open Ev.ifT; kqd_all; kqd_in
  | ksl_open Ev.ifF; kqd_all; kqd_in
  | ksl_open Ev.callF; rfl; rfl; rfl; rfl; decide; rfl; kst_in; solve_by_elim
  | ksl_open Ev.callT; rfl; kernel_rfl; rfl; decide; decide; rfl; kst_in; (first | ksl_open CalR.cal1 | ksl_open CalR.cal2); kat_tups
  | ksl_open Ev.callB; rfl; kernel_rfl; rfl; decide; decide; rfl; kst_in; (first | ksl_open CalR.cal1 | ksl_open CalR.cal2); kat_tups
  | ksl_open Ev.cmp; kqd_in; kqd_in; ktn_open; ktn_open; kt_ors; rfl
  | ksl_open Ev.boolOne; kqd_in
  | ksl_open Ev.or; kqd_in; intro _; kqd_in
  | ksl_open Ev.and; kqd_in; intro _; kqd_in
  | ksl_open Ev.not; kqd_in
  | ksl_open Ev.sliceRev; kqd_in; kt_len
  | (ksl_open Ev.comp; kd_mem))
local macro_rules | `(tactic| kqd_all) => `(tactic| first
  | ksl_open Tst.cmp; kqd_in; kqd_in; ktn_open; ktn_open; kt_ors; rfl
  | kso_open Tst.andNil
  | kso_open Tst.orNil
  | ksl_open Tst.notT; kqd_all
  | ksl_open Tst.notF; kqd_all
  | ksl_open Tst.andF; kqd_all
  | ksl_open Tst.andT; kqd_all; kqd_all
  | ksl_open Tst.orT; kqd_all
  | ksl_open Tst.orF; kqd_all; kqd_all
  | (ksl_open Tst.val; kqd_in; exact fun _ _ => rfl))
theorem enc_not_none (k : K) : isNone (enc k) = false := by cases k <;> rfl
theorem encO_not_none (k : K) : isNone (encO (some k)) = false := enc_not_none k

theorem pok (c : Cx) (k : K) (hk : plainK k = true) (hz : sz k ≤ 1000000) (σ : Sto) (n : Nat) : Cal c (n + 1) (.ref 30) [.val (enc k)] σ (.val (.list (encs (kids k)))) σ := by
  cases k with
  | var x => cases hk
  | all x hi b => cases hk
  | num => (refine' Cal.fn1 rfl rfl ?_ rfl rfl rfl rfl (fun s v => BindsTo.of_eq rfl) ?_ ?_ ?_ ?_ rfl rfl rfl; rotate_left; kernel_rfl; decide; decide); (first | (ksl_open Exec.step; ksl_open After.asg; kqd_in; decide; exact fun _ _ => rfl) | (ksl_open Exec.step; ksl_open After.comp; kd_mem; rfl; (intro env h; cases env; cases h; rfl))); (ksl_open Exec.skip; kqd_all); (ksl_open Exec.skip; kqd_all); (ksl_open Exec.skip; kqd_all); (ksl_open Exec.skip; kqd_all); (ksl_open Exec.ret; kqd_in); rfl
  | fn => (refine' Cal.fn1 rfl rfl ?_ rfl rfl rfl rfl (fun s v => BindsTo.of_eq rfl) ?_ ?_ ?_ ?_ rfl rfl rfl; rotate_left; kernel_rfl; decide; decide); (first | (ksl_open Exec.step; ksl_open After.asg; kqd_in; decide; exact fun _ _ => rfl) | (ksl_open Exec.step; ksl_open After.comp; kd_mem; rfl; (intro env h; cases env; cases h; rfl))); (ksl_open Exec.skip; kqd_all); (ksl_open Exec.skip; kqd_all); (ksl_open Exec.skip; kqd_all); (ksl_open Exec.skip; kqd_all); (ksl_open Exec.ret; kqd_in); rfl
  | bottom => (refine' Cal.fn1 rfl rfl ?_ rfl rfl rfl rfl (fun s v => BindsTo.of_eq rfl) ?_ ?_ ?_ ?_ rfl rfl rfl; rotate_left; kernel_rfl; decide; decide); (first | (ksl_open Exec.step; ksl_open After.asg; kqd_in; decide; exact fun _ _ => rfl) | (ksl_open Exec.step; ksl_open After.comp; kd_mem; rfl; (intro env h; cases env; cases h; rfl))); (ksl_open Exec.skip; kqd_all); (ksl_open Exec.skip; kqd_all); (ksl_open Exec.skip; kqd_all); (ksl_open Exec.skip; kqd_all); (ksl_open Exec.ret; kqd_in); rfl
  | nm h => (refine' Cal.fn1 rfl rfl ?_ rfl rfl rfl rfl (fun s v => BindsTo.of_eq rfl) ?_ ?_ ?_ ?_ rfl rfl rfl; rotate_left; kernel_rfl; decide; decide); (first | (ksl_open Exec.step; ksl_open After.asg; kqd_in; decide; exact fun _ _ => rfl) | (ksl_open Exec.step; ksl_open After.comp; kd_mem; rfl; (intro env h; cases env; cases h; rfl))); (ksl_open Exec.retT; kqd_all); (ksl_open Exec.ret; kqd_in); rfl
  | arr a => (refine' Cal.fn1 rfl rfl ?_ rfl rfl rfl rfl (fun s v => BindsTo.of_eq rfl) ?_ ?_ ?_ ?_ rfl rfl rfl; rotate_left; kernel_rfl; decide; decide); (first | (ksl_open Exec.step; ksl_open After.asg; kqd_in; decide; exact fun _ _ => rfl) | (ksl_open Exec.step; ksl_open After.comp; kd_mem; rfl; (intro env h; cases env; cases h; rfl))); (ksl_open Exec.retT; kqd_all); (ksl_open Exec.ret; kqd_in); rfl
  | union a b => (refine' Cal.fn1 rfl rfl ?_ rfl rfl rfl rfl (fun s v => BindsTo.of_eq rfl) ?_ ?_ ?_ ?_ rfl rfl rfl; rotate_left; kernel_rfl; decide; decide); (first | (ksl_open Exec.step; ksl_open After.asg; kqd_in; decide; exact fun _ _ => rfl) | (ksl_open Exec.step; ksl_open After.comp; kd_mem; rfl; (intro env h; cases env; cases h; rfl))); (ksl_open Exec.skip; kqd_all); (ksl_open Exec.skip; kqd_all); (ksl_open Exec.retT; kqd_all); (ksl_open Exec.ret; kqd_in); rfl
  | typeof a => (refine' Cal.fn1 rfl rfl ?_ rfl rfl rfl rfl (fun s v => BindsTo.of_eq rfl) ?_ ?_ ?_ ?_ rfl rfl rfl; rotate_left; kernel_rfl; decide; decide); (first | (ksl_open Exec.step; ksl_open After.asg; kqd_in; decide; exact fun _ _ => rfl) | (ksl_open Exec.step; ksl_open After.comp; kd_mem; rfl; (intro env h; cases env; cases h; rfl))); (ksl_open Exec.skip; kqd_all); (ksl_open Exec.skip; kqd_all); (ksl_open Exec.skip; kqd_all); (ksl_open Exec.skip; kqd_all); (ksl_open Exec.ret; kqd_in); rfl
  | tup ps r =>
    have hl := encs_length ps
    have hl2 := szs_len ps
    simp only [sz] at hz
    cases r with
    | none => (refine' Cal.fn1 rfl rfl ?_ rfl rfl rfl rfl (fun s v => BindsTo.of_eq rfl) ?_ ?_ ?_ ?_ rfl rfl rfl; rotate_left; kernel_rfl; decide; decide); (first | (ksl_open Exec.step; ksl_open After.asg; kqd_in; decide; exact fun _ _ => rfl) | (ksl_open Exec.step; ksl_open After.comp; kd_mem; rfl; (intro env h; cases env; cases h; rfl))); (ksl_open Exec.skip; kqd_all); (ksl_open Exec.retT; kqd_all); (ksl_open Exec.ret; kqd_in); simp [kids_tup]
    | some r =>
      have hn := encO_not_none r
      (refine' Cal.fn1 rfl rfl ?_ rfl rfl rfl rfl (fun s v => BindsTo.of_eq rfl) ?_ ?_ ?_ ?_ rfl rfl rfl; rotate_left; kernel_rfl; decide; decide); (first | (ksl_open Exec.step; ksl_open After.asg; kqd_in; decide; exact fun _ _ => rfl) | (ksl_open Exec.step; ksl_open After.comp; kd_mem; rfl; (intro env h; cases env; cases h; rfl))); (ksl_open Exec.skip; kqd_all); (ksl_open Exec.retT; kqd_all); (ksl_open Exec.ret; kqd_in); simp [kids_tup, encs_append, encs_cons, encs_nil, encO_some]
noncomputable def fvInv (σ : Sto) (a : Stk × List Str) : Sto := σ ++ [a.2.map .str, (a.1.map pe).reverse]
theorem fvInv_seen1 (σ : Sto) (a : Stk × List Str) : seen (fvInv σ a) (.cell (σ.length + 1)) = some (.list (a.1.map pe).reverse) := by simp [seen, fvInv]
theorem fvInv_seen0 (σ : Sto) (a : Stk × List Str) : seen (fvInv σ a) (.cell σ.length) = some (.list (a.2.map .str)) := by simp [seen, fvInv]
theorem fvInv_at1 (σ : Sto) (a : Stk × List Str) : (fvInv σ a)[σ.length + 1]? = some (a.1.map pe).reverse := by simp [fvInv]
theorem fvInv_at0 (σ : Sto) (a : Stk × List Str) : (fvInv σ a)[σ.length]? = some (a.2.map .str) := by simp [fvInv]
theorem fvInv_set1 (σ : Sto) (a a' : Stk × List Str) (h : a'.2 = a.2) : (fvInv σ a).set (σ.length + 1) (a'.1.map pe).reverse = fvInv σ a' := by unfold fvInv; rw [set1, h]
theorem fvInv_set0 (σ : Sto) (a a' : Stk × List Str) (h : a'.1 = a.1) : (fvInv σ a).set σ.length (a'.2.map .str) = fvInv σ a' := by unfold fvInv; rw [set0, h]

theorem fv_ok (c : Cx) (k₀ : K) (hz : sz k₀ ≤ 100000) (σ : Sto) (n : Nat) : Cal c (n + 2) (.ref 35) [.val (enc k₀)] σ (.val (.list ((freeList k₀).map .str))) σ := by
  refine Cal.freeze (rs := [[]]) ?_ rfl
  (refine' Cal.fn1 rfl rfl ?_ rfl rfl rfl rfl (fun s v => BindsTo.of_eq rfl) ?_ ?_ ?_ ?_ rfl rfl rfl; rotate_left; kernel_rfl; decide; decide)
  · refine Exec.step (After.unpack (xs := [Str.ofString "found", Str.ofString "left"]) (bs := [.cell σ.length, .cell (σ.length + 1)]) (sw := true) (σ₁ := fvInv σ ([(k₀, [])], [])) (EvT.disp (Evs.cons (σ₁ := σ ++ [[]]) (Ev.listCell (ds := []) Evs.vnil (by decide)) (Evs.cons (σ₁ := fvInv σ ([(k₀, [])], [])) ?_ Evs.nil rfl) rfl) (by simp [sizeLine])) rfl rfl (by decide) (by decide) (fun _ _ => rfl) ?_) ?_
    · have h : fvInv σ ([(k₀, [])], []) = (σ ++ [[]]) ++ [[pe (k₀, [])]] := by simp [fvInv]
      have e : σ.length + 1 = (σ ++ [[]]).length := by simp
      rw [h, e]
      refine Ev.listCell (ds := [pe (k₀, [])]) (Evs.vcons rfl (Ev.as (b := .val (.tuple [enc k₀, .tuple []])) ?_ rfl) Evs.vnil) (by simp [sizeLine])
      kqd_in
    · intro env h; cases env; cases h; rfl
    · dsimp only [List.zip, List.zipWith, List.cons_append, List.nil_append]
      refine Exec.whileIn (hW := WhileR.run (α := Stk × List Str) (inv := fvInv σ) (fin := fun a => σ ++ [(fvAll a.1 a.2).map .str, []]) (μ := fun a => tot a.1) (ok := fun a => a.2.length + tot a.1 ≤ 200000 ∧ ∀ p ∈ a.1, p.2.length + sz p.1 ≤ 200000) ?_ _ ([(k₀, [])], []) ?_ (Nat.le_refl _)) ?_
      · rintro ⟨stk, fd⟩ ⟨hok, hbd⟩
        dsimp only at hok hbd
        cases stk with
        | nil =>
          refine .inl ⟨Tst.cmp (Ev.name rfl (by decide)) (Ev.list (ds := []) Evs.vnil (by decide)) (fvInv_seen1 ..) rfl (cmp_ne (Nat.le_trans (Nat.min_le_right _ _) (by decide)) neNil0) rfl, rfl⟩
        | cons p stk =>
          obtain ⟨k, bd⟩ := p
          have hsk : 0 < sz k := sz_pos k
          change fd.length + (sz k + tot stk) ≤ 200000 at hok
          have hlen := tot_len stk
          have pop : (fvInv σ ((k, bd) :: stk, fd))[σ.length + 1]? = some ((stk.map pe).reverse ++ [pe (k, bd)]) := by rw [fvInv_at1]; simp
          refine .inr ⟨fvNext k bd stk fd, Tst.cmp (Ev.name rfl (by decide)) (Ev.list (ds := []) Evs.vnil (by decide)) (fvInv_seen1 ..) rfl (cmp_ne (Nat.le_trans (Nat.min_le_right _ _) (by decide)) (by simp only [List.map_cons, List.reverse_cons]; exact neNil _ _)) rfl, ?_, fvNext_tot k bd stk fd, ⟨Nat.le_trans (fvNext_ok k bd stk fd) hok, fvNext_ok2 _ k bd stk fd hbd⟩, ?_⟩
          · show _ ++ _ = _ ++ _
            rw [fvNext_fin]
          refine ⟨(Str.ofString "here", .val (enc k)) :: (Str.ofString "bound", .val (.tuple (bd.map .str))) :: [(Str.ofString "found", .cell σ.length), (Str.ofString "left", .cell (σ.length + 1)), (Str.ofString "kind", .val (enc k₀))], ?_, Gam.skip rfl (Gam.skip rfl fun _ _ e => e)⟩
          · refine Exec.step (After.unpack (xs := [Str.ofString "here", Str.ofString "bound"]) (bs := [.val (enc k), .val (.tuple (bd.map .str))]) (sw := false) (EvT.val (Ev.pop' (i := σ.length + 1) rfl (by decide) pop (by simp; omega) rfl (fvInv_set1 σ _ (stk, fd) rfl))) rfl rfl (by decide) (by decide) (fun _ _ => rfl) (fun _ _ => rfl)) ?_
            dsimp only [List.zip, List.zipWith, List.cons_append, List.nil_append]
            have s0 := fvInv_seen0 σ (stk, fd)
            dsimp only at s0
            by_cases hk : plainK k = true
            · obtain ⟨w, tl, he, w1, w2⟩ := plain_word k hk
              have hkl := kids_len k
              have hel := encs_length (kids k)
              have hp := pok c k hk (by omega) (fvInv σ (stk, fd)) n
              have hq : (encs (kids k)).reverse = (kids k).reverse.map enc := by rw [encs_reverse, encs_map]
              have e3 : (fvInv σ (stk, fd)).set (σ.length + 1) ((stk.map pe).reverse ++ (kids k).reverse.map fun p => .tuple [enc p, .tuple (bd.map .str)]) = fvInv σ (fvNext k bd stk fd) := by
                rw [fvNext_plain k hk, ← fvInv_set1 σ (stk, fd) ((kids k).map (fun p => (p, bd)) ++ stk, fd) rfl]
                congr 1
                simp [Function.comp_def, pe]
              refine Exec.nextF (Tst.cmp (Ev.item (Ev.name rfl (by decide)) Ev.cint (.inl he) (by decide) (by decide) rfl (fun _ _ => rfl)) (Ev.cstr (by kernel_rfl)) rfl rfl (cmp_eq (Nat.le_trans (Nat.min_le_right _ _) (by decide)) w1) rfl)
                (Exec.nextF (Tst.cmp (Ev.item (Ev.name rfl (by decide)) Ev.cint (.inl he) (by decide) (by decide) rfl (fun _ _ => rfl)) (Ev.cstr (by kernel_rfl)) rfl rfl (cmp_eq (Nat.le_trans (Nat.min_le_right _ _) (by decide)) w2) rfl)
                  (Exec.step (After.expr (Ev.extend' (i := σ.length + 1) (es := (kids k).reverse.map fun p => .tuple [enc p, .tuple (bd.map .str)]) rfl (by decide) ?_ rfl (fvInv_at1 σ (stk, fd)) (by simp; omega) rfl e3) (fun env h => ?_) fun _ => rfl) Exec.nil) Exec.nil) Exec.nil
              · with_reducible apply Ev.comp
                kp_flats
                with_reducible apply CompG.one
                kd_p1
                rfl
                rfl
                kt_len
                decide
                rfl
                rfl
                exact fun _ _ => rfl
                decide
              · cases env; cases h; rfl
            cases k with
            | var x =>
              apply Exec.nextT (h₂ := Exec.nil)
              · kqd_all
              · by_cases h1 : x ∈ bd
                · have e1 : (!((bd.map PyData.str).any fun y => PyData.eqv y (.str x))) = false := by rw [strs_any]; simp [h1]
                  have q : fvNext (.var x) bd stk fd = (stk, fd) := by show (stk, if x ∈ bd ∨ x ∈ fd then fd else fd ++ [x]) = _; simp [h1]
                  rw [q]
                  refine Exec.skip (Tst.andF ?_) Exec.nil
                  kqd_all
                · have e1 : (!((bd.map PyData.str).any fun y => PyData.eqv y (.str x))) = true := by rw [strs_any]; simp [h1]
                  by_cases h2 : x ∈ fd
                  · have e2 : (!((fd.map PyData.str).any fun y => PyData.eqv y (.str x))) = false := by rw [strs_any]; simp [h2]
                    have q : fvNext (.var x) bd stk fd = (stk, fd) := by show (stk, if x ∈ bd ∨ x ∈ fd then fd else fd ++ [x]) = _; simp [h2]
                    rw [q]
                    refine Exec.skip (Tst.andT ?_ (Tst.andF ?_)) Exec.nil
                    · kqd_all
                    · kqd_all
                  · have e2 : (!((fd.map PyData.str).any fun y => PyData.eqv y (.str x))) = true := by rw [strs_any]; simp [h2]
                    have q : fvNext (.var x) bd stk fd = (stk, fd ++ [x]) := by show (stk, if x ∈ bd ∨ x ∈ fd then fd else fd ++ [x]) = _; simp [h1, h2]
                    rw [q]
                    have e3 : (fvInv σ (stk, fd)).set σ.length (fd.map .str ++ [.str x]) = fvInv σ (stk, fd ++ [x]) := by rw [← fvInv_set0 σ (stk, fd) (stk, fd ++ [x]) rfl]; simp
                    refine Exec.nextT (Tst.andT ?_ (Tst.andT ?_ Tst.andNil)) (Exec.step (After.expr (Ev.append' (i := σ.length) (d := .str x) (ds := fd.map .str) rfl (by decide) ?_ rfl (fvInv_at0 σ (stk, fd)) (by simp; omega) rfl e3) (fun env h => ?_) fun _ => rfl) Exec.nil) Exec.nil
                    · kqd_all
                    · kqd_all
                    · kqd_in
                    · cases env; cases h; rfl
            | all x hi b =>
              apply Exec.nextF (h₂ := Exec.nil)
              · kqd_all
              · apply Exec.nextT (h₂ := Exec.nil)
                · kqd_all
                · have e3 : (fvInv σ (stk, fd)).set (σ.length + 1) ((stk.map pe).reverse ++ [pe (b, bd ++ [x])]) = fvInv σ ((b, bd ++ [x]) :: stk, fd) := by rw [← fvInv_set1 σ (stk, fd) ((b, bd ++ [x]) :: stk, fd) rfl]; simp
                  have e4 : (fvInv σ ((b, bd ++ [x]) :: stk, fd)).set (σ.length + 1) ((((b, bd ++ [x]) :: stk).map pe).reverse ++ [pe (hi, bd), pe (.bottom, bd)]) = fvInv σ ((.bottom, bd) :: (hi, bd) :: (b, bd ++ [x]) :: stk, fd) := by rw [← fvInv_set1 σ ((b, bd ++ [x]) :: stk, fd) ((.bottom, bd) :: (hi, bd) :: (b, bd ++ [x]) :: stk, fd) rfl]; simp
                  refine Exec.step (After.expr (Ev.append' (i := σ.length + 1) (d := pe (b, bd ++ [x])) rfl (by decide) (Ev.as (b := .val (.tuple [enc b, .tuple (bd.map .str ++ [.str x])])) ?_ (by simp [pe])) rfl (fvInv_at1 σ (stk, fd)) (by simp; omega) rfl e3) (fun env h => ?_) fun _ => rfl) ?_
                  · have hb : bd.length + sz (K.all x hi b) ≤ 200000 := hbd _ (.head _)
                    kqd_in
                  · cases env; cases h; rfl
                  refine Exec.step (After.expr (Ev.extend' (i := σ.length + 1) (es := [pe (hi, bd), pe (.bottom, bd)]) rfl (by decide) (Ev.as (b := .val (.list [.tuple [enc hi, .tuple (bd.map .str)], .tuple [.tuple [dS "bottom"], .tuple (bd.map .str)]])) ?_ rfl) rfl (fvInv_at1 σ ((b, bd ++ [x]) :: stk, fd)) (by simp; omega) rfl e4) (fun env h => ?_) fun _ => rfl) Exec.nil
                  · kqd_in
                  · cases env; cases h; rfl
            | _ => exact absurd rfl hk
      · refine ⟨by show 0 + (sz k₀ + 0) ≤ 200000; omega, fun p hp => ?_⟩
        rw [List.mem_singleton.mp hp]
        show 0 + sz k₀ ≤ _
        omega
      · exact Exec.ret (Ev.name rfl (by decide))
  · rfl
theorem eqv_str (a b : Str) : PyData.eqv (.str a) (.str b) = (a == b) := by rw [PyData.eqv]
theorem eqv_str_ne {a b : Str} (h : a ≠ b) : PyData.eqv (.str a) (.str b) = false := by rw [eqv_str]; simpa using h
theorem eqv_str_eq (a : Str) : PyData.eqv (.str a) (.str a) = true := by rw [eqv_str]; simp

theorem occ_leaf (c : Cx) (x : Str) (k : K) (h : lfw k = true) (ho : occ x k = (0, decide (x ∈ freeList k))) (hz : sz k ≤ 100000) (m : Nat) (σ : Sto) : Cal c (m + 3) (.ref 40) [.val (enc k), .val (.str x)] σ (.val (occD x k)) σ := by
  obtain ⟨tl, he⟩ := enc_word k
  obtain ⟨w1, w2, w3, w4⟩ := word_no k h
  generalize wordK k = w at he w1 w2 w3 w4
  have hf := fun σ => fv_ok c k hz σ m
  (refine' Cal.fn2 rfl rfl ?_ rfl rfl rfl rfl (fun s v u => BindsTo.of_eq rfl) ?_ ?_ ?_ ?_ rfl rfl rfl; rotate_left; kernel_rfl; decide; decide); (first | (ksl_open Exec.step; ksl_open After.asg; kqd_in; decide; exact fun _ _ => rfl) | (ksl_open Exec.step; ksl_open After.comp; kd_mem; rfl; (intro env h; cases env; cases h; rfl))); (ksl_open Exec.skip; kqd_all); (ksl_open Exec.skip; kqd_all); (ksl_open Exec.skip; kqd_all); (ksl_open Exec.skip; kqd_all); (ksl_open Exec.ret; kqd_in)
  rw [strs_any, occD, ho]
theorem occ_ok (c : Cx) (x : Str) : ∀ k : K, sz k ≤ 100000 → ∀ n, 2 * hgt k + 4 ≤ n → ∀ σ, Cal c n (.ref 40) [.val (enc k), .val (.str x)] σ (.val (occD x k)) σ := by
  intro k
  induction k using K.ind with
  | var y =>
    intro hz n hn σ
    obtain ⟨m, rfl⟩ := gt1 hn
    by_cases h : y = x
    · subst h
      have e1 := eqv_str_eq y
      (refine' Cal.fn2 rfl rfl ?_ rfl rfl rfl rfl (fun s v u => BindsTo.of_eq rfl) ?_ ?_ ?_ ?_ rfl rfl rfl; rotate_left; kernel_rfl; decide; decide); (first | (ksl_open Exec.step; ksl_open After.asg; kqd_in; decide; exact fun _ _ => rfl) | (ksl_open Exec.step; ksl_open After.comp; kd_mem; rfl; (intro env h; cases env; cases h; rfl))); (ksl_open Exec.retT; kqd_all); (ksl_open Exec.ret; kqd_in); simp [occD, occ_var]
    · have e1 := eqv_str_ne h
      (refine' Cal.fn2 rfl rfl ?_ rfl rfl rfl rfl (fun s v u => BindsTo.of_eq rfl) ?_ ?_ ?_ ?_ rfl rfl rfl; rotate_left; kernel_rfl; decide; decide); (first | (ksl_open Exec.step; ksl_open After.asg; kqd_in; decide; exact fun _ _ => rfl) | (ksl_open Exec.step; ksl_open After.comp; kd_mem; rfl; (intro env h; cases env; cases h; rfl))); (ksl_open Exec.retT; kqd_all); (ksl_open Exec.ret; kqd_in); simp [occD, occ_var, h]
  | union a b iha ihb =>
    intro hz n hn σ
    rw [sz_union] at hz
    rw [hgt_union] at hn
    obtain ⟨m, rfl⟩ := gt1 hn
    have hq : [enc a, enc b] = [a, b].map enc := rfl
    have ih : ∀ p ∈ [a, b], ∀ σ, Cal c m (.ref 40) [.val (enc p), .val (.str x)] σ (.val (occD x p)) σ := by
      intro p hp
      simp only [List.mem_cons, List.not_mem_nil, or_false] at hp
      rcases hp with rfl | rfl
      · exact iha (by omega) m (by omega)
      · exact ihb (by omega) m (by omega)
    (refine' Cal.fn2 rfl rfl ?_ rfl rfl rfl rfl (fun s v u => BindsTo.of_eq rfl) ?_ ?_ ?_ ?_ rfl rfl rfl; rotate_left; kernel_rfl; decide; decide); (first | (ksl_open Exec.step; ksl_open After.asg; kqd_in; decide; exact fun _ _ => rfl) | (ksl_open Exec.step; ksl_open After.comp; kd_mem; rfl; (intro env h; cases env; cases h; rfl))); (ksl_open Exec.skip; kqd_all); (ksl_open Exec.retT; kqd_all); (first | (ksl_open Exec.step; ksl_open After.asg; kqd_in; decide; exact fun _ _ => rfl) | (ksl_open Exec.step; ksl_open After.comp; kd_mem; rfl; (intro env h; cases env; cases h; rfl))); (ksl_open Exec.ret; kqd_in)
    rw [bools_any]
    simp [occD, occ_union]
  | all y hi b ihhi ihb =>
    intro hz n hn σ
    rw [sz_all] at hz
    rw [hgt_all] at hn
    obtain ⟨m, rfl⟩ := gt4 hn
    have hb : ∀ σ, Cal c (m + 3) (.ref 47) [.val (enc (.all y hi b)), .val (.str x)] σ (.val (occD x (.all y hi b))) σ := by
      intro σ
      have f1 := fun σ => fv_ok c .bottom (by show 1 ≤ 100000; decide) σ m
      have f2 := fun σ => fv_ok c hi (by omega) σ m
      have ih := ihb (by omega) (m + 2) (by omega)
      by_cases h : y = x
      · subst h
        have e1 := eqv_str_eq y
        (refine' Cal.fn2 rfl rfl ?_ rfl rfl rfl rfl (fun s v u => BindsTo.of_eq rfl) ?_ ?_ ?_ ?_ rfl rfl rfl; rotate_left; kernel_rfl; decide; decide)
        · refine Exec.step (After.unpack (σ₁ := σ) (xs := [Str.ofString "many", Str.ofString "is_within"]) (bs := vals [.int 0, .bool false]) (sw := false) (EvT.val ?_) rfl rfl (by decide) (by decide) (fun _ _ => rfl) (fun _ _ => rfl)) ?_
          · kqd_in
          · dsimp only [vals, List.map, List.zip, List.zipWith, List.cons_append, List.nil_append]
            (ksl_open Exec.ret; kqd_in)
        · simp only [strs_any]
          simp [occD, occ_all, free_bottom]
      · have e1 := eqv_str_ne h
        (refine' Cal.fn2 rfl rfl ?_ rfl rfl rfl rfl (fun s v u => BindsTo.of_eq rfl) ?_ ?_ ?_ ?_ rfl rfl rfl; rotate_left; kernel_rfl; decide; decide)
        · refine Exec.step (After.unpack (σ₁ := σ) (xs := [Str.ofString "many", Str.ofString "is_within"]) (bs := vals [.int (occ x b).1, .bool (occ x b).2]) (sw := false) (EvT.val (ds := [.int (occ x b).1, .bool (occ x b).2]) ?_) rfl rfl (by decide) (by decide) (fun _ _ => rfl) (fun _ _ => rfl)) ?_
          · refine Ev.as (b := .val (occD x b)) ?_ rfl
            kqd_in
          · dsimp only [vals, List.map, List.zip, List.zipWith, List.cons_append, List.nil_append]
            (ksl_open Exec.ret; kqd_in)
        · simp only [strs_any]
          simp [occD, occ_all, free_bottom, h]
    (refine' Cal.fn2 rfl rfl ?_ rfl rfl rfl rfl (fun s v u => BindsTo.of_eq rfl) ?_ ?_ ?_ ?_ rfl rfl rfl; rotate_left; kernel_rfl; decide; decide); (first | (ksl_open Exec.step; ksl_open After.asg; kqd_in; decide; exact fun _ _ => rfl) | (ksl_open Exec.step; ksl_open After.comp; kd_mem; rfl; (intro env h; cases env; cases h; rfl))); (ksl_open Exec.skip; kqd_all); (ksl_open Exec.skip; kqd_all); (ksl_open Exec.skip; kqd_all); (ksl_open Exec.retT; kqd_all); (ksl_open Exec.ret; kqd_in); rfl
  | tup ps r ihp ihr =>
    intro hz n hn σ
    rw [sz_tup] at hz
    rw [hgt_tup] at hn
    obtain ⟨m, rfl⟩ := gt1 hn
    have hl := encs_length ps
    have hl2 := szs_len ps
    have ih : ∀ p ∈ ps, ∀ σ, Cal c m (.ref 40) [.val (enc p), .val (.str x)] σ (.val (occD x p)) σ := by
      intro p hp
      have := szs_mem hp
      have := hgts_mem hp
      exact ihp p hp (by omega) m (by omega)
    cases r with
    | none =>
      (refine' Cal.fn2 rfl rfl ?_ rfl rfl rfl rfl (fun s v u => BindsTo.of_eq rfl) ?_ ?_ ?_ ?_ rfl rfl rfl; rotate_left; kernel_rfl; decide; decide); (first | (ksl_open Exec.step; ksl_open After.asg; kqd_in; decide; exact fun _ _ => rfl) | (ksl_open Exec.step; ksl_open After.comp; kd_mem; rfl; (intro env h; cases env; cases h; rfl))); (ksl_open Exec.skip; kqd_all); (ksl_open Exec.skip; kqd_all); (ksl_open Exec.retT; kqd_all); (first | (ksl_open Exec.step; ksl_open After.asg; kqd_in; decide; exact fun _ _ => rfl) | (ksl_open Exec.step; ksl_open After.comp; kd_mem; rfl; (intro env h; cases env; cases h; rfl))); (ksl_open Exec.skip; kqd_all); (ksl_open Exec.ret; kqd_in)
      rw [bools_any]
      simp [occD, occ_tup, occs_map, occO_none, occO_some, Function.comp_def]
    | some r =>
      have q0 := encO_not_none r
      have q1 : (!isNone (encO (some r))) = true := by rw [q0]; rfl
      have hr : ∀ σ, Cal c m (.ref 40) [.val (encO (some r)), .val (.str x)] σ (.val (occD x r)) σ := ihr r rfl (by rw [szO_some] at hz; omega) m (by rw [hgtO_some] at hn; omega)
      have hq : (ps.map fun p => occD x p) ++ ([occD x r] ++ [occD x r]) = (ps ++ [r, r]).map fun p => occD x p := by simp
      (refine' Cal.fn2 rfl rfl ?_ rfl rfl rfl rfl (fun s v u => BindsTo.of_eq rfl) ?_ ?_ ?_ ?_ rfl rfl rfl; rotate_left; kernel_rfl; decide; decide); (first | (ksl_open Exec.step; ksl_open After.asg; kqd_in; decide; exact fun _ _ => rfl) | (ksl_open Exec.step; ksl_open After.comp; kd_mem; rfl; (intro env h; cases env; cases h; rfl))); (ksl_open Exec.skip; kqd_all); (ksl_open Exec.skip; kqd_all); (ksl_open Exec.retT; kqd_all); (first | (ksl_open Exec.step; ksl_open After.asg; kqd_in; decide; exact fun _ _ => rfl) | (ksl_open Exec.step; ksl_open After.comp; kd_mem; rfl; (intro env h; cases env; cases h; rfl)))
      (with_reducible apply Exec.nextT)
      kqd_all
      (first | (ksl_open Exec.step; ksl_open After.asg; kqd_in; decide; exact fun _ _ => rfl) | (ksl_open Exec.step; ksl_open After.comp; kd_mem; rfl; (intro env h; cases env; cases h; rfl)))
      with_reducible exact Exec.nil
      (ksl_open Exec.ret; kqd_in)
      rw [bools_any]
      simp [occD, occ_tup, occs_map, occO_none, occO_some, Function.comp_def]
  | _ =>
    intro hz n hn σ
    obtain ⟨m, rfl⟩ := gt3 (Nat.le_trans (Nat.le_succ _) hn)
    exact occ_leaf c x _ rfl rfl hz m σ
theorem diag_ok (c : Cx) (x : Str) (k : K) (hz : sz k ≤ 100000) (n : Nat) (hn : 2 * hgt k + 5 ≤ n) (σ : Sto) : Cal c n (.ref 54) [.val (enc k), .val (.str x)] σ (.val (.bool (diag k x))) σ := by
  obtain ⟨m, rfl⟩ := gt1 hn
  have h := occ_ok c x k hz m (by omega)
  (refine' Cal.fn2 rfl rfl ?_ rfl rfl rfl rfl (fun s v u => BindsTo.of_eq rfl) ?_ ?_ ?_ ?_ rfl rfl rfl; rotate_left; kernel_rfl; decide; decide)
  · refine Exec.step (After.unpack (σ₁ := σ) (xs := [Str.ofString "many", Str.ofString "is_within"]) (bs := vals [.int (occ x k).1, .bool (occ x k).2]) (sw := false) (EvT.val (ds := [.int (occ x k).1, .bool (occ x k).2]) (Ev.as (b := .val (occD x k)) ?_ rfl)) rfl rfl (by decide) (by decide) (fun _ _ => rfl) (fun _ _ => rfl)) ?_
    · kqd_in
    · dsimp only [vals, List.map, List.zip, List.zipWith, List.cons_append, List.nil_append]
      (ksl_open Exec.ret; kqd_in)
  · rfl
theorem tof2_t (c : Cx) (ds : List PyData) (r : PyData) (n : Nat) (σ : Sto) : Cal c (n + 1) (.ref 23) [.val (.tuple ds), .val r] σ (.val (.tuple [dS "tuple", .tuple ds, r])) σ := by
  refine Cal.fn rfl rfl ?_ rfl rfl rfl rfl (binds2d fun s v u hb => BindsTo.of_defaults rfl (hb _ _ (c.X 16 _ rfl)) rfl rfl rfl) ?_ rfl ?_ ?_ ?_ rfl rfl rfl; kernel_rfl; decide; decide; decide; apply Exists.intro; apply And.intro; dsimp only [List.zip, List.zipWith]
  (ksl_open Exec.ret; kqd_in)
  rfl
theorem tof2_l (c : Cx) (ds : List PyData) (hds : ds.length ≤ 100000) (r : PyData) (n : Nat) (σ : Sto) : Cal c (n + 1) (.ref 23) [.val (.list ds), .val r] σ (.val (.tuple [dS "tuple", .tuple ds, r])) σ := by
  refine Cal.fn rfl rfl ?_ rfl rfl rfl rfl (binds2d fun s v u hb => BindsTo.of_defaults rfl (hb _ _ (c.X 16 _ rfl)) rfl rfl rfl) ?_ rfl ?_ ?_ ?_ rfl rfl rfl; kernel_rfl; decide; decide; decide; apply Exists.intro; apply And.intro; dsimp only [List.zip, List.zipWith]
  (ksl_open Exec.ret; kqd_in)
  rfl
theorem tof1_l (c : Cx) (ds : List PyData) (hds : ds.length ≤ 100000) (n : Nat) (σ : Sto) : Cal c (n + 1) (.ref 23) [.val (.list ds)] σ (.val (.tuple [dS "tuple", .tuple ds, .none])) σ := by
  refine Cal.fn rfl rfl ?_ rfl rfl rfl rfl (binds1d fun s v hb => BindsTo.of_defaults rfl (hb _ _ (c.X 16 _ rfl)) rfl rfl rfl) ?_ rfl ?_ ?_ ?_ rfl rfl rfl; kernel_rfl; decide; decide; decide; apply Exists.intro; apply And.intro; dsimp only [List.zip, List.zipWith]
  (ksl_open Exec.ret; kqd_in)
  rfl
theorem emp_leaf (c : Cx) (k : K) (h : notTA k = true) (m : Nat) (σ : Sto) : Cal c (m + 1) (.ref 69) [.val (enc k)] σ (.val (.bool (emp k))) σ := by
  obtain ⟨tl, he⟩ := enc_word k
  obtain ⟨w1, w2⟩ := word_no2 k h
  generalize wordK k = w at he w1 w2
  (refine' Cal.fn1 rfl rfl ?_ rfl rfl rfl rfl (fun s v => BindsTo.of_eq rfl) ?_ ?_ ?_ ?_ rfl rfl rfl; rotate_left; kernel_rfl; decide; decide); (ksl_open Exec.skip; kqd_all); (ksl_open Exec.skip; kqd_all); (ksl_open Exec.ret; kqd_in)
  rw [eqv_bottom, emp_notTA k h]
theorem emp_ok (c : Cx) : ∀ k : K, sz k ≤ 100000 → ∀ n, hgt k + 1 ≤ n → ∀ σ, Cal c n (.ref 69) [.val (enc k)] σ (.val (.bool (emp k))) σ := by
  intro k
  induction k using K.ind with
  | all x hi b _ ihb =>
    intro hz n hn σ
    rw [sz_all] at hz
    rw [hgt_all] at hn
    obtain ⟨m, rfl⟩ := gt1 hn
    have ih := ihb (by omega) m (by omega)
    (refine' Cal.fn1 rfl rfl ?_ rfl rfl rfl rfl (fun s v => BindsTo.of_eq rfl) ?_ ?_ ?_ ?_ rfl rfl rfl; rotate_left; kernel_rfl; decide; decide); (ksl_open Exec.skip; kqd_all); (ksl_open Exec.retT; kqd_all); (ksl_open Exec.ret; kqd_in); rfl
  | tup ps r ihp _ =>
    intro hz n hn σ
    rw [sz_tup] at hz
    rw [hgt_tup] at hn
    obtain ⟨m, rfl⟩ := gt1 hn
    have hl := encs_length ps
    have hl2 := szs_len ps
    have ih : ∀ p ∈ ps, ∀ σ, Cal c m (.ref 69) [.val (enc p)] σ (.val (.bool (emp p))) σ := by
      intro p hp
      have := szs_mem hp
      have := hgts_mem hp
      exact ihp p hp (by omega) m (by omega)
    (refine' Cal.fn1 rfl rfl ?_ rfl rfl rfl rfl (fun s v => BindsTo.of_eq rfl) ?_ ?_ ?_ ?_ rfl rfl rfl; rotate_left; kernel_rfl; decide; decide); (ksl_open Exec.retT; kqd_all); (ksl_open Exec.ret; kqd_in)
    rw [bools_any, emp_tup, emps_any]
  | _ =>
    intro hz n hn σ
    obtain ⟨m, rfl⟩ := gt1 hn
    exact emp_leaf c _ rfl m σ
theorem tail_ok (c : Cx) (ps : List K) (r : Option K) (hz : sz (.tup ps r) ≤ 100000) (n : Nat) (hn : hgt (.tup ps r) + 2 ≤ n) (σ : Sto) :
    Cal c n (.ref 76) [.val (enc (.tup ps r))] σ (.val (match r with | none => .none | some r => if emp r then .none else enc r)) σ := by
  obtain ⟨m, rfl⟩ := gt1 hn
  simp only [sz] at hz
  simp only [hgt] at hn
  cases r with
  | none => (refine' Cal.fn1 rfl rfl ?_ rfl rfl rfl rfl (fun s v => BindsTo.of_eq rfl) ?_ ?_ ?_ ?_ rfl rfl rfl; rotate_left; kernel_rfl; decide; decide); (ksl_open Exec.ret; kqd_in); rfl
  | some r =>
    have q0 := encO_not_none r
    have q1 : (!isNone (encO (some r))) = true := by rw [q0]; rfl
    have ih : ∀ σ, Cal c m (.ref 69) [.val (encO (some r))] σ (.val (.bool (emp r))) σ := emp_ok c r (by rw [szO_some] at hz; omega) m (by rw [hgtO_some] at hn; omega)
    cases he : emp r with
    | true =>
      rw [he] at ih
      (refine' Cal.fn1 rfl rfl ?_ rfl rfl rfl rfl (fun s v => BindsTo.of_eq rfl) ?_ ?_ ?_ ?_ rfl rfl rfl; rotate_left; kernel_rfl; decide; decide); (ksl_open Exec.ret; kqd_in); simp [he, encO_some]
    | false =>
      rw [he] at ih
      (refine' Cal.fn1 rfl rfl ?_ rfl rfl rfl rfl (fun s v => BindsTo.of_eq rfl) ?_ ?_ ?_ ?_ rfl rfl rfl; rotate_left; kernel_rfl; decide; decide); (ksl_open Exec.ret; kqd_in); simp [he, encO_some]
theorem lc_leaf (c : Cx) (k : K) (h : ∃ w tl, enc k = .tuple (.str w :: tl) ∧ PyData.eqv (.str w) (dS "union") = false ∧ PyData.eqv (.str w) (dS "all") = false ∧ PyData.eqv (.str w) (dS "tuple") = false) (n : Nat) (σ : Sto) :
    Cal c (n + 1) (.ref 59) [.val (enc k)] σ (.val (.list [enc k])) σ := by
  obtain ⟨w, tl, he, w1, w2, w3⟩ := h
  (refine' Cal.fn1 rfl rfl ?_ rfl rfl rfl rfl (fun s v => BindsTo.of_eq rfl) ?_ ?_ ?_ ?_ rfl rfl rfl; rotate_left; kernel_rfl; decide; decide)
  (first | (ksl_open Exec.step; ksl_open After.asg; kqd_in; decide; exact fun _ _ => rfl) | (ksl_open Exec.step; ksl_open After.comp; kd_mem; rfl; (intro env h; cases env; cases h; rfl)))
  · apply Exec.nextF
    · kqd_all
    · apply Exec.nextF
      · refine Tst.andF ?_
        kqd_all
      · apply Exec.nextF
        · kqd_all
        · (first | (ksl_open Exec.step; ksl_open After.asg; kqd_in; decide; exact fun _ _ => rfl) | (ksl_open Exec.step; ksl_open After.comp; kd_mem; rfl; (intro env h; cases env; cases h; rfl)))
          with_reducible exact Exec.nil
        · with_reducible exact Exec.nil
      · with_reducible exact Exec.nil
    · (ksl_open Exec.ret; kqd_in)
  · rfl
theorem lc_union (c : Cx) (a b : K) (n : Nat) (ih : ∀ p ∈ [a, b], ∀ σ, Cal c n (.ref 59) [.val (enc p)] σ (.val (.list ((lcases p).map enc))) σ) (σ : Sto) :
    Cal c (n + 1) (.ref 59) [.val (enc (.union a b))] σ (.val (.list ((lcases (.union a b)).map enc))) σ := by
  have hq : [enc a, enc b] = [a, b].map enc := rfl
  have h1 := lcases_len a
  have h2 := lcases_len b
  have hL : (List.flatMap (fun p => (lcases p).map enc) [a, b]).length ≤ 1000000 := by simp; omega
  by_cases hc : (lcases a ++ lcases b).length ≤ 64
  · have e1 : decide (((List.flatMap (fun p => (lcases p).map enc) [a, b]).length : Int) ≤ 64) = true := by
      simp at hc ⊢; omega
    (refine' Cal.fn1 rfl rfl ?_ rfl rfl rfl rfl (fun s v => BindsTo.of_eq rfl) ?_ ?_ ?_ ?_ rfl rfl rfl; rotate_left; kernel_rfl; decide; decide)
    (first | (ksl_open Exec.step; ksl_open After.asg; kqd_in; decide; exact fun _ _ => rfl) | (ksl_open Exec.step; ksl_open After.comp; kd_mem; rfl; (intro env h; cases env; cases h; rfl)))
    · apply Exec.nextT
      · kqd_all
      · (ksl_open Exec.step; ksl_open After.comp; (kp_flats; ksl_open CompG.two; ksl_open C2.maps; (first | assumption | exact encs_map _ | with_reducible rfl); (intro p hp τ; kp_flats); (intro p hp q hq τ; kqd_in); exact fun _ _ => rfl; rfl; rfl; rfl; rfl; decide; kt_len; decide; rfl; rfl; exact fun _ _ => rfl; decide); rfl; (intro env h; cases env; cases h; rfl))
        with_reducible exact Exec.nil
      · (ksl_open Exec.ret; kqd_in)
    · have hc' : (lcases a).length + (lcases b).length ≤ 64 := by simpa using hc
      simp [lcases_union, cut, hc']
  · have e1 : decide (((List.flatMap (fun p => (lcases p).map enc) [a, b]).length : Int) ≤ 64) = false := by
      simp at hc ⊢; omega
    (refine' Cal.fn1 rfl rfl ?_ rfl rfl rfl rfl (fun s v => BindsTo.of_eq rfl) ?_ ?_ ?_ ?_ rfl rfl rfl; rotate_left; kernel_rfl; decide; decide)
    (first | (ksl_open Exec.step; ksl_open After.asg; kqd_in; decide; exact fun _ _ => rfl) | (ksl_open Exec.step; ksl_open After.comp; kd_mem; rfl; (intro env h; cases env; cases h; rfl)))
    · apply Exec.nextT
      · kqd_all
      · (ksl_open Exec.step; ksl_open After.comp; (kp_flats; ksl_open CompG.two; ksl_open C2.maps; (first | assumption | exact encs_map _ | with_reducible rfl); (intro p hp τ; kp_flats); (intro p hp q hq τ; kqd_in); exact fun _ _ => rfl; rfl; rfl; rfl; rfl; decide; kt_len; decide; rfl; rfl; exact fun _ _ => rfl; decide); rfl; (intro env h; cases env; cases h; rfl))
        with_reducible exact Exec.nil
      · (ksl_open Exec.ret; kqd_in)
    · have hc' : ¬ (lcases a).length + (lcases b).length ≤ 64 := by simpa using hc
      simp [lcases_union, cut, hc']
theorem lc_all (c : Cx) (x : Str) (hi b : K) (n : Nat) (ih : ∀ σ, Cal c n (.ref 59) [.val (enc b)] σ (.val (.list ((lcases b).map enc))) σ) (hd : ∀ σ, Cal c n (.ref 54) [.val (enc b), .val (.str x)] σ (.val (.bool (diag b x))) σ) (σ : Sto) :
    Cal c (n + 1) (.ref 59) [.val (enc (.all x hi b))] σ (.val (.list ((lcases (.all x hi b)).map enc))) σ := by
  have h2 := lcases_len b
  have hL : (lcases b).length ≤ 1000000 := by omega
  cases hdg : diag b x with
  | true =>
    rw [hdg] at hd
    (refine' Cal.fn1 rfl rfl ?_ rfl rfl rfl rfl (fun s v => BindsTo.of_eq rfl) ?_ ?_ ?_ ?_ rfl rfl rfl; rotate_left; kernel_rfl; decide; decide)
    (first | (ksl_open Exec.step; ksl_open After.asg; kqd_in; decide; exact fun _ _ => rfl) | (ksl_open Exec.step; ksl_open After.comp; kd_mem; rfl; (intro env h; cases env; cases h; rfl)))
    · apply Exec.nextF
      · kqd_all
      · apply Exec.nextF
        · kqd_all
        · apply Exec.nextF
          · kqd_all
          · (first | (ksl_open Exec.step; ksl_open After.asg; kqd_in; decide; exact fun _ _ => rfl) | (ksl_open Exec.step; ksl_open After.comp; kd_mem; rfl; (intro env h; cases env; cases h; rfl)))
            with_reducible exact Exec.nil
          · with_reducible exact Exec.nil
        · with_reducible exact Exec.nil
      · (ksl_open Exec.ret; kqd_in)
    · simp [lcases_all, hdg]
  | false =>
    rw [hdg] at hd
    have e1 : decide (((List.map (fun q => PyData.tuple [dS "all", .str x, .tuple [dS "bottom"], enc hi, enc q]) (lcases b)).length : Int) ≤ 64) = true := by
      simp; omega
    (refine' Cal.fn1 rfl rfl ?_ rfl rfl rfl rfl (fun s v => BindsTo.of_eq rfl) ?_ ?_ ?_ ?_ rfl rfl rfl; rotate_left; kernel_rfl; decide; decide)
    (first | (ksl_open Exec.step; ksl_open After.asg; kqd_in; decide; exact fun _ _ => rfl) | (ksl_open Exec.step; ksl_open After.comp; kd_mem; rfl; (intro env h; cases env; cases h; rfl)))
    · apply Exec.nextF
      · kqd_all
      · apply Exec.nextT
        · kqd_all
        · (first | (ksl_open Exec.step; ksl_open After.asg; kqd_in; decide; exact fun _ _ => rfl) | (ksl_open Exec.step; ksl_open After.comp; kd_mem; rfl; (intro env h; cases env; cases h; rfl)))
          with_reducible exact Exec.nil
        · with_reducible exact Exec.nil
      · (ksl_open Exec.ret; kqd_in)
    · simp [lcases_all, hdg, cut, h2]
      intro a _; rfl
noncomputable def rowsOs (p : K) (cs : List K) (rows : List (List K)) : List PyData := rows.flatMap fun row => cs.map fun q => .tuple (encs row ++ [enc q])
theorem rowsOs_eq (p : K) (cs : List K) (rows : List (List K)) : PyData.list (rows.flatMap fun row => (if 64 < rows.length * cs.length then [p] else cs).map fun q => .tuple (encs row ++ [enc q])) = rowsD (rowStep p cs rows) := by
  unfold rowsD rowStep
  rw [List.map_flatMap]
  congr 2
  funext row
  rw [List.map_map]
  congr 1
  funext q
  simp [Function.comp, encs_append, encs_cons, encs_nil]

theorem tcs_ok (c : Cx) (ps : List K) (r : Option K) (hz : szs ps ≤ 100000) (n : Nat) (ih : ∀ p ∈ ps, ∀ σ, Cal c (n + 1) (.ref 59) [.val (enc p)] σ (.val (.list ((lcases p).map enc))) σ) (σ : Sto) :
    Cal c (n + 2) (.ref 64) [.val (enc (.tup ps r))] σ (.val (.list ((lrows ps [[]]).map fun row => enc (.tup row r)))) σ := by
  have ht := tof2_t c
  have hel := encs_length ps
  have hsl := szs_len ps
  (refine' Cal.fn1 rfl rfl ?_ rfl rfl rfl rfl (fun s v => BindsTo.of_eq rfl) ?_ ?_ ?_ ?_ rfl rfl rfl; rotate_left; kernel_rfl; decide; decide)
  (first | (ksl_open Exec.step; ksl_open After.asg; kqd_in; decide; exact fun _ _ => rfl) | (ksl_open Exec.step; ksl_open After.comp; kd_mem; rfl; (intro env h; cases env; cases h; rfl)))
  · refine Exec.forIn (σ₁ := σ) (ds := ps.map enc) (R₁ := .next [(Str.ofString "rows", .val (rowsD (ps.foldl (fun rows p => rowStep p (lcases p) rows) [[]]))), (Str.ofString "kind", .val (enc (.tup ps r)))] σ) ?_ ?_ ?_ ?_ ?_
    · apply EvIt.tuple
      refine Ev.as (σ₁ := σ) (b := .val (.tuple (encs ps))) ?_ (by rw [encs_map])
      kqd_in
    · rfl
    · exact fun _ _ => rfl
    · refine ForR.fold (f := enc) (G := fun rows => [(Str.ofString "rows", .val (rowsD rows)), (Str.ofString "kind", .val (enc (.tup ps r)))]) (stepF := fun rows p => rowStep p (lcases p) rows)
        (ok := fun rest rows => rows.length ≤ 64 ∧ ∀ r ∈ rows, r.length + rest.length ≤ 100000) ?_ [[]] ?_
      · intro p rest hp rows ⟨hok1, hok2⟩
        have h1 := lcases_len p
        have ihp := ih p hp
        have hrow : ∀ r ∈ rows, ∀ d : PyData, (encs r).length + [d].length ≤ sizeLine := fun r hr d => by
          have := hok2 r hr
          rw [encs_length]; simp [sizeLine]; omega
        have hm : IntMulOk ((rows.map fun r => PyData.tuple (encs r)).length : Int) (((lcases p).map enc).length : Int) := IntMulOk.of_right (intBits_le_64 (by simp; omega) (by simp; omega))
        have hL : ∀ (cs : List K), cs.length ≤ 64 → (List.flatMap (fun row => cs.map fun q => PyData.tuple (encs row ++ [enc q])) rows).length ≤ 1000000 := fun cs hcs => by
          rw [flatMap_len (n := cs.length) (h := fun a => by simp)]
          have := Nat.mul_le_mul hok1 hcs
          omega
        refine ⟨⟨rowStep_len _ _ _ hok1, ?_⟩, ?_⟩
        · intro r hr
          unfold rowStep at hr
          obtain ⟨row, hr1, hr2⟩ := List.mem_flatMap.mp hr
          obtain ⟨q, _, rfl⟩ := List.mem_map.mp hr2
          have := hok2 row hr1
          simp only [List.length_cons, List.length_append, List.length_nil] at this ⊢
          omega
        · rw [← rowsOs_eq]
          by_cases hc : 64 < rows.length * (lcases p).length
          · simp only [if_pos hc]
            have e1 : decide ((64 : Int) < ((rows.map fun r => PyData.tuple (encs r)).length : Int) * (((lcases p).map enc).length : Int)) = true := by
              rw [List.length_map, List.length_map]; exact decide_eq_true (by exact_mod_cast hc)
            have hL' := hL [p] (by simp)
            refine ⟨(Str.ofString "rows", .val (.list (rows.flatMap fun row => [p].map fun q => .tuple (encs row ++ [enc q])))) :: (Str.ofString "cases", .val (.list ([p].map enc))) :: (Str.ofString "cases", .val (.list ((lcases p).map enc))) :: (Str.ofString "part", .val (enc p)) :: (Str.ofString "rows", .val (rowsD rows)) :: [(Str.ofString "kind", .val (enc (.tup ps r)))], ?_,
              Gam.keep (Gam.skip rfl (Gam.skip rfl (Gam.skip rfl (Gam.skip rfl fun _ _ e => e))))⟩
            (first | (ksl_open Exec.step; ksl_open After.asg; kqd_in; decide; exact fun _ _ => rfl) | (ksl_open Exec.step; ksl_open After.comp; kd_mem; rfl; (intro env h; cases env; cases h; rfl)))
            apply Exec.nextT
            · kqd_all
            · refine Exec.step (After.asg (σ₁ := σ) (b := .val (.list ([p].map enc))) (Ev.as (b := .val (.list [enc p])) ?_ rfl) (by decide) fun _ _ => rfl) Exec.nil
              kqd_in
            · (ksl_open Exec.step; ksl_open After.comp; (kp_flats; ksl_open CompG.two; ksl_open C2.maps; (first | assumption | exact encs_map _ | with_reducible rfl); (intro p hp τ; kp_flats); (intro p hp q hq τ; kqd_in); exact fun _ _ => rfl; rfl; rfl; rfl; rfl; decide; kt_len; decide; rfl; rfl; exact fun _ _ => rfl; decide); rfl; (intro env h; cases env; cases h; rfl))
              with_reducible exact Exec.nil
          · simp only [if_neg hc]
            have e1 : decide ((64 : Int) < ((rows.map fun r => PyData.tuple (encs r)).length : Int) * (((lcases p).map enc).length : Int)) = false := by
              rw [List.length_map, List.length_map]; exact decide_eq_false (by exact_mod_cast hc)
            have hL' := hL (lcases p) h1
            refine ⟨(Str.ofString "rows", .val (.list (rows.flatMap fun row => (lcases p).map fun q => .tuple (encs row ++ [enc q])))) :: (Str.ofString "cases", .val (.list ((lcases p).map enc))) :: (Str.ofString "part", .val (enc p)) :: (Str.ofString "rows", .val (rowsD rows)) :: [(Str.ofString "kind", .val (enc (.tup ps r)))], ?_,
              Gam.keep (Gam.skip rfl (Gam.skip rfl (Gam.skip rfl fun _ _ e => e)))⟩
            (first | (ksl_open Exec.step; ksl_open After.asg; kqd_in; decide; exact fun _ _ => rfl) | (ksl_open Exec.step; ksl_open After.comp; kd_mem; rfl; (intro env h; cases env; cases h; rfl)))
            (ksl_open Exec.skip; kqd_all)
            (ksl_open Exec.step; ksl_open After.comp; (kp_flats; ksl_open CompG.two; ksl_open C2.maps; (first | assumption | exact encs_map _ | with_reducible rfl); (intro p hp τ; kp_flats); (intro p hp q hq τ; kqd_in); exact fun _ _ => rfl; rfl; rfl; rfl; rfl; decide; kt_len; decide; rfl; rfl; exact fun _ _ => rfl; decide); rfl; (intro env h; cases env; cases h; rfl))
            with_reducible exact Exec.nil
      · exact ⟨by simp, fun r hr => by rw [List.mem_singleton.mp hr]; simp; omega⟩
    · dsimp only [Goes]
      have hl := lrows_len ps [[]] (by simp)
      (ksl_open Exec.ret; kqd_in)
  · rw [lrows_fold]; rfl

theorem lc_tup (c : Cx) (ps : List K) (r : Option K) (n : Nat) (ht : ∀ σ, Cal c n (.ref 64) [.val (enc (.tup ps r))] σ (.val (.list ((lrows ps [[]]).map fun row => enc (.tup row r)))) σ) (σ : Sto) :
    Cal c (n + 1) (.ref 59) [.val (enc (.tup ps r))] σ (.val (.list ((lcases (.tup ps r)).map enc))) σ := by
  have hl := lrows_len ps [[]] (by simp)
  rw [← lrows_fold] at hl
  have hL : ((lrows ps [[]]).map fun row => enc (.tup row r)).length ≤ 1000000 := by simp; omega
  have e1 : decide ((((lrows ps [[]]).map fun row => enc (.tup row r)).length : Int) ≤ 64) = true := by simp; omega
  (refine' Cal.fn1 rfl rfl ?_ rfl rfl rfl rfl (fun s v => BindsTo.of_eq rfl) ?_ ?_ ?_ ?_ rfl rfl rfl; rotate_left; kernel_rfl; decide; decide)
  (first | (ksl_open Exec.step; ksl_open After.asg; kqd_in; decide; exact fun _ _ => rfl) | (ksl_open Exec.step; ksl_open After.comp; kd_mem; rfl; (intro env h; cases env; cases h; rfl)))
  · apply Exec.nextF
    · kqd_all
    · apply Exec.nextF
      · refine Tst.andF ?_
        kqd_all
      · apply Exec.nextT
        · kqd_all
        · (first | (ksl_open Exec.step; ksl_open After.asg; kqd_in; decide; exact fun _ _ => rfl) | (ksl_open Exec.step; ksl_open After.comp; kd_mem; rfl; (intro env h; cases env; cases h; rfl)))
          with_reducible exact Exec.nil
        · with_reducible exact Exec.nil
      · with_reducible exact Exec.nil
    · (ksl_open Exec.ret; kqd_in)
  · simp [lcases_tup, cut, hl]

theorem lc_ok (c : Cx) : ∀ k : K, sz k ≤ 100000 → ∀ n, 2 * hgt k + 8 ≤ n → ∀ σ, Cal c n (.ref 59) [.val (enc k)] σ (.val (.list ((lcases k).map enc))) σ := by
  intro k
  induction k using K.ind with
  | union a b iha ihb =>
    intro hz n hn σ
    rw [sz_union] at hz
    rw [hgt_union] at hn
    obtain ⟨m, rfl⟩ := gt1 hn
    refine lc_union c a b m (fun p hp => ?_) σ
    simp only [List.mem_cons, List.not_mem_nil, or_false] at hp
    rcases hp with rfl | rfl
    · exact iha (by omega) m (by omega)
    · exact ihb (by omega) m (by omega)
  | all x hi b _ ihb =>
    intro hz n hn σ
    rw [sz_all] at hz
    rw [hgt_all] at hn
    obtain ⟨m, rfl⟩ := gt1 hn
    exact lc_all c x hi b m (ihb (by omega) m (by omega)) (diag_ok c x b (by omega) m (by omega)) σ
  | tup ps r ihp _ =>
    intro hz n hn σ
    rw [sz_tup] at hz
    rw [hgt_tup] at hn
    obtain ⟨m, rfl⟩ := gt3 hn
    refine lc_tup c ps r (m + 2) (tcs_ok c ps r (by omega) m fun p hp => ?_) σ
    have := szs_mem hp
    have := hgts_mem hp
    exact ihp p hp (by omega) (m + 1) (by omega)
  | _ =>
    intro hz n hn σ
    obtain ⟨m, rfl⟩ := gt1 hn
    exact lc_leaf c _ ⟨_, _, rfl, by decide +kernel, by decide +kernel, by decide +kernel⟩ m σ
theorem none_leaf (c : Cx) (k : K) (h : notTA k = true) (m : Nat) (σ : Sto) : Cal c (m + 1) (.ref 134) [.val (enc k)] σ (.val (.bool (emp k))) σ := by
  obtain ⟨tl, he⟩ := enc_word k
  obtain ⟨w1, w2⟩ := word_no2 k h
  generalize wordK k = w at he w1 w2
  (refine' Cal.fn1 rfl rfl ?_ rfl rfl rfl rfl (fun s v => BindsTo.of_eq rfl) ?_ ?_ ?_ ?_ rfl rfl rfl; rotate_left; kernel_rfl; decide; decide); (ksl_open Exec.skip; kqd_all); (ksl_open Exec.ret; kqd_in)
  rw [eqv_bottom, emp_notTA k h]
theorem none_ok (c : Cx) : ∀ k : K, sz k ≤ 100000 → ∀ n, hgt k + 1 ≤ n → ∀ σ, Cal c n (.ref 134) [.val (enc k)] σ (.val (.bool (emp k))) σ := by
  intro k
  induction k using K.ind with
  | all x hi b _ ihb =>
    intro hz n hn σ
    rw [sz_all] at hz
    rw [hgt_all] at hn
    obtain ⟨m, rfl⟩ := gt1 hn
    have ih := ihb (by omega) m (by omega)
    (refine' Cal.fn1 rfl rfl ?_ rfl rfl rfl rfl (fun s v => BindsTo.of_eq rfl) ?_ ?_ ?_ ?_ rfl rfl rfl; rotate_left; kernel_rfl; decide; decide); (ksl_open Exec.skip; kqd_all); (ksl_open Exec.ret; kqd_in); rfl
  | tup ps r ihp _ =>
    intro hz n hn σ
    rw [sz_tup] at hz
    rw [hgt_tup] at hn
    obtain ⟨m, rfl⟩ := gt1 hn
    have hl := encs_length ps
    have hl2 := szs_len ps
    have ih : ∀ p ∈ ps, ∀ σ, Cal c m (.ref 134) [.val (enc p)] σ (.val (.bool (emp p))) σ := by
      intro p hp
      have := szs_mem hp
      have := hgts_mem hp
      exact ihp p hp (by omega) m (by omega)
    (refine' Cal.fn1 rfl rfl ?_ rfl rfl rfl rfl (fun s v => BindsTo.of_eq rfl) ?_ ?_ ?_ ?_ rfl rfl rfl; rotate_left; kernel_rfl; decide; decide); (ksl_open Exec.retT; kqd_all); (ksl_open Exec.ret; kqd_in)
    rw [bools_any, emp_tup, emps_any]
  | _ =>
    intro hz n hn σ
    obtain ⟨m, rfl⟩ := gt1 hn
    exact none_leaf c _ rfl m σ
theorem T_any (k : K) : ((List.map PyData.str (freeList k)).any fun y => y.eqv (PyData.str (Str.ofString "T.1"))) = decide (tT ∈ freeList k) := strs_any
theorem within_one (c : Cx) (k : K) (w1 : ([dS "union", dS "tuple"].any fun y => PyData.eqv y (.str (wordK k))) = false) (w2 : PyData.eqv (.str (wordK k)) (dS "all") = false) (w3 : ([dS "name", dS "typeof"].any fun y => PyData.eqv y (.str (wordK k))) = true)
    (ho : within k = decide (tT ∈ freeList k)) (hz : sz k ≤ 100000) (m : Nat) (σ : Sto) : Cal c (m + 3) (.ref 112) [.val (enc k)] σ (.val (.bool (within k))) σ := by
  obtain ⟨tl, he⟩ := enc_word k
  generalize wordK k = w at he w1 w2 w3
  have hf := fun σ => fv_ok c k hz σ m
  (refine' Cal.fn1 rfl rfl ?_ rfl rfl rfl rfl (fun s v => BindsTo.of_eq rfl) ?_ ?_ ?_ ?_ rfl rfl rfl; rotate_left; kernel_rfl; decide; decide); (ksl_open Exec.skip; kqd_all); (ksl_open Exec.skip; kqd_all); (with_reducible apply Exec.ret); (with_reducible apply Ev.andT); kqd_in; kqd_in
  rw [T_any, ho]
theorem within_none (c : Cx) (k : K) (w1 : ([dS "union", dS "tuple"].any fun y => PyData.eqv y (.str (wordK k))) = false) (w2 : PyData.eqv (.str (wordK k)) (dS "all") = false) (w3 : ([dS "name", dS "typeof"].any fun y => PyData.eqv y (.str (wordK k))) = false)
    (ho : within k = false) (m : Nat) (σ : Sto) : Cal c (m + 1) (.ref 112) [.val (enc k)] σ (.val (.bool (within k))) σ := by
  obtain ⟨tl, he⟩ := enc_word k
  generalize wordK k = w at he w1 w2 w3
  (refine' Cal.fn1 rfl rfl ?_ rfl rfl rfl rfl (fun s v => BindsTo.of_eq rfl) ?_ ?_ ?_ ?_ rfl rfl rfl; rotate_left; kernel_rfl; decide; decide); (ksl_open Exec.skip; kqd_all); (ksl_open Exec.skip; kqd_all); (with_reducible apply Exec.ret); (with_reducible apply Ev.andF); kqd_in
  rw [ho]
theorem within_ok (c : Cx) : ∀ k : K, sz k ≤ 100000 → ∀ n, hgt k + 4 ≤ n → ∀ σ, Cal c n (.ref 112) [.val (enc k)] σ (.val (.bool (within k))) σ := by
  intro k
  induction k using K.ind with
  | union a b iha ihb =>
    intro hz n hn σ
    rw [sz_union] at hz
    rw [hgt_union] at hn
    obtain ⟨m, rfl⟩ := gt1 hn
    have hq : [enc a, enc b] ++ [] = [a, b].map enc := rfl
    have ih : ∀ p ∈ [a, b], ∀ σ, Cal c m (.ref 112) [.val (enc p)] σ (.val (.bool (within p))) σ := by
      intro p hp
      simp only [List.mem_cons, List.not_mem_nil, or_false] at hp
      rcases hp with rfl | rfl
      · exact iha (by omega) m (by omega)
      · exact ihb (by omega) m (by omega)
    (refine' Cal.fn1 rfl rfl ?_ rfl rfl rfl rfl (fun s v => BindsTo.of_eq rfl) ?_ ?_ ?_ ?_ rfl rfl rfl; rotate_left; kernel_rfl; decide; decide)
    (ksl_open Exec.retT; kqd_all)
    (first | (ksl_open Exec.step; ksl_open After.asg; kqd_in; decide; exact fun _ _ => rfl) | (ksl_open Exec.step; ksl_open After.comp; kd_mem; rfl; (intro env h; cases env; cases h; rfl)))
    (ksl_open Exec.ret; kqd_in)
    rw [bools_any]; simp [within_union]
  | all x hi b _ ihb =>
    intro hz n hn σ
    rw [sz_all] at hz
    rw [hgt_all] at hn
    obtain ⟨m, rfl⟩ := gt3 hn
    have ih := ihb (by omega) (m + 2) (by omega)
    have f := fun σ => fv_ok c hi (by omega) σ m
    (refine' Cal.fn1 rfl rfl ?_ rfl rfl rfl rfl (fun s v => BindsTo.of_eq rfl) ?_ ?_ ?_ ?_ rfl rfl rfl; rotate_left; kernel_rfl; decide; decide); (ksl_open Exec.skip; kqd_all); (ksl_open Exec.retT; kqd_all); (ksl_open Exec.ret; kqd_in)
    rw [T_any, eqv_str]; rfl
  | tup ps r ihp ihr =>
    intro hz n hn σ
    rw [sz_tup] at hz
    rw [hgt_tup] at hn
    obtain ⟨m, rfl⟩ := gt1 hn
    have hl := encs_length ps
    have hl2 := szs_len ps
    have ih : ∀ p ∈ ps, ∀ σ, Cal c m (.ref 112) [.val (enc p)] σ (.val (.bool (within p))) σ := by
      intro p hp
      have := szs_mem hp
      have := hgts_mem hp
      exact ihp p hp (by omega) m (by omega)
    cases r with
    | none =>
      have hq : encs ps ++ [] = ps.map enc := by rw [encs_map]; simp
      (refine' Cal.fn1 rfl rfl ?_ rfl rfl rfl rfl (fun s v => BindsTo.of_eq rfl) ?_ ?_ ?_ ?_ rfl rfl rfl; rotate_left; kernel_rfl; decide; decide); (ksl_open Exec.retT; kqd_all); (first | (ksl_open Exec.step; ksl_open After.asg; kqd_in; decide; exact fun _ _ => rfl) | (ksl_open Exec.step; ksl_open After.comp; kd_mem; rfl; (intro env h; cases env; cases h; rfl))); (ksl_open Exec.ret; kqd_in)
      rw [bools_any]; simp [within_tup, withins_any, withinO_none, withinO_some]
    | some r =>
      have q0 := encO_not_none r
      have q1 : (!isNone (encO (some r))) = true := by rw [q0]; rfl
      have hq : encs ps ++ [encO (some r)] = (ps ++ [r]).map enc := by rw [encs_map]; simp [encO_some]
      have ih2 : ∀ p ∈ ps ++ [r], ∀ σ, Cal c m (.ref 112) [.val (enc p)] σ (.val (.bool (within p))) σ := by
        intro p hp
        rcases List.mem_append.mp hp with hp | hp
        · exact ih p hp
        · rw [List.mem_singleton.mp hp]
          exact ihr r rfl (by rw [szO_some] at hz; omega) m (by rw [hgtO_some] at hn; omega)
      (refine' Cal.fn1 rfl rfl ?_ rfl rfl rfl rfl (fun s v => BindsTo.of_eq rfl) ?_ ?_ ?_ ?_ rfl rfl rfl; rotate_left; kernel_rfl; decide; decide); (ksl_open Exec.retT; kqd_all); (first | (ksl_open Exec.step; ksl_open After.asg; kqd_in; decide; exact fun _ _ => rfl) | (ksl_open Exec.step; ksl_open After.comp; kd_mem; rfl; (intro env h; cases env; cases h; rfl))); (ksl_open Exec.ret; kqd_in)
      rw [bools_any]; simp [within_tup, withins_any, withinO_none, withinO_some]
  | nm h =>
    intro hz n hn σ
    obtain ⟨m, rfl⟩ := gt4 hn
    exact within_one c _ (by kernel_rfl) (by kernel_rfl) (by kernel_rfl) rfl hz _ σ
  | arr a _ =>
    intro hz n hn σ
    obtain ⟨m, rfl⟩ := gt4 hn
    exact within_one c _ (by kernel_rfl) (by kernel_rfl) (by kernel_rfl) rfl hz _ σ
  | typeof a _ =>
    intro hz n hn σ
    obtain ⟨m, rfl⟩ := gt4 hn
    exact within_one c _ (by kernel_rfl) (by kernel_rfl) (by kernel_rfl) rfl hz _ σ
  | _ =>
    intro hz n hn σ
    obtain ⟨m, rfl⟩ := gt4 hn
    exact within_none c _ (by kernel_rfl) (by kernel_rfl) (by kernel_rfl) rfl _ σ
theorem named_leaf (c : Cx) (x : Str) (k : K) (h : PyData.eqv (.str (wordK k)) (dS "var") = false ∧ PyData.eqv (.str (wordK k)) (dS "name") = false ∧ PyData.eqv (.str (wordK k)) (dS "tuple") = false ∧ PyData.eqv (.str (wordK k)) (dS "union") = false ∧ PyData.eqv (.str (wordK k)) (dS "typeof") = false ∧ (!PyData.eqv (.str (wordK k)) (dS "all")) = true)
    (ho : named x k = k) (m : Nat) (σ : Sto) : Cal c (m + 1) (.ref 124) [.val (enc k), .val (.str x)] σ (.val (enc (named x k))) σ := by
  obtain ⟨tl, he⟩ := enc_word k
  obtain ⟨w1, w2, w3, w4, w5, w6⟩ := h
  generalize wordK k = w at he w1 w2 w3 w4 w5 w6
  (refine' Cal.fn2 rfl rfl ?_ rfl rfl rfl rfl (fun s v u => BindsTo.of_eq rfl) ?_ ?_ ?_ ?_ rfl rfl rfl; rotate_left; kernel_rfl; decide; decide); (ksl_open Exec.skip; kqd_all); (ksl_open Exec.skip; kqd_all); (ksl_open Exec.skip; kqd_all); (ksl_open Exec.skip; kqd_all); (ksl_open Exec.skip; kqd_all); (ksl_open Exec.retT; kqd_all); (ksl_open Exec.ret; kqd_in)
  rw [ho]
theorem named_ok (c : Cx) (x : Str) : ∀ k : K, sz k ≤ 100000 → ∀ n, hgt k + 1 ≤ n → ∀ σ, Cal c n (.ref 124) [.val (enc k), .val (.str x)] σ (.val (enc (named x k))) σ := by
  intro k
  induction k using K.ind with
  | var y =>
    intro hz n hn σ
    obtain ⟨m, rfl⟩ := gt1 hn
    by_cases h : y = x
    · subst h
      have e1 := eqv_str_eq y
      (refine' Cal.fn2 rfl rfl ?_ rfl rfl rfl rfl (fun s v u => BindsTo.of_eq rfl) ?_ ?_ ?_ ?_ rfl rfl rfl; rotate_left; kernel_rfl; decide; decide); (ksl_open Exec.retT; kqd_all); (ksl_open Exec.ret; kqd_in); simp [named_var, renS, enc_var, tT]
    · have e1 := eqv_str_ne h
      by_cases h2 : y = tT
      · have e2 : PyData.eqv (.str y) (.str (Str.ofString "T.1")) = true := by rw [h2]; exact eqv_str_eq _
        (refine' Cal.fn2 rfl rfl ?_ rfl rfl rfl rfl (fun s v u => BindsTo.of_eq rfl) ?_ ?_ ?_ ?_ rfl rfl rfl; rotate_left; kernel_rfl; decide; decide); (ksl_open Exec.retT; kqd_all); (ksl_open Exec.ret; kqd_in); rw [named_var, renS, if_neg h, if_pos h2]; rfl
      · have e2 : PyData.eqv (.str y) (.str (Str.ofString "T.1")) = false := eqv_str_ne h2
        (refine' Cal.fn2 rfl rfl ?_ rfl rfl rfl rfl (fun s v u => BindsTo.of_eq rfl) ?_ ?_ ?_ ?_ rfl rfl rfl; rotate_left; kernel_rfl; decide; decide); (ksl_open Exec.retT; kqd_all); (ksl_open Exec.ret; kqd_in); rw [named_var, renS, if_neg h, if_neg h2]; rfl
  | num =>
    intro hz n hn σ
    obtain ⟨m, rfl⟩ := gt1 hn
    exact named_leaf c x _ ⟨by kernel_rfl, by kernel_rfl, by kernel_rfl, by kernel_rfl, by kernel_rfl, by kernel_rfl⟩ rfl m σ
  | fn =>
    intro hz n hn σ
    obtain ⟨m, rfl⟩ := gt1 hn
    exact named_leaf c x _ ⟨by kernel_rfl, by kernel_rfl, by kernel_rfl, by kernel_rfl, by kernel_rfl, by kernel_rfl⟩ rfl m σ
  | bottom =>
    intro hz n hn σ
    obtain ⟨m, rfl⟩ := gt1 hn
    exact named_leaf c x _ ⟨by kernel_rfl, by kernel_rfl, by kernel_rfl, by kernel_rfl, by kernel_rfl, by kernel_rfl⟩ rfl m σ
  | nm h =>
    intro hz n hn σ
    obtain ⟨m, rfl⟩ := gt1 hn
    have hq : ([] : List PyData) = ([] : List K).map enc := rfl
    have ih : ∀ p ∈ ([] : List K), ∀ σ, Cal c m (.ref 124) [.val (enc p), .val (.str x)] σ (.val (enc (named x p))) σ := fun p hp => nomatch hp
    (refine' Cal.fn2 rfl rfl ?_ rfl rfl rfl rfl (fun s v u => BindsTo.of_eq rfl) ?_ ?_ ?_ ?_ rfl rfl rfl; rotate_left; kernel_rfl; decide; decide); (ksl_open Exec.skip; kqd_all); (ksl_open Exec.retT; kqd_all); (ksl_open Exec.ret; kqd_in); rfl
  | arr a iha =>
    intro hz n hn σ
    rw [sz_arr] at hz
    rw [hgt_arr] at hn
    obtain ⟨m, rfl⟩ := gt2 hn
    have hq : [enc a, .tuple [dS "n", .int 1]] = [a, .num].map enc := rfl
    have h0 : ∀ σ, Cal c (m + 1) (.ref 124) [.val (enc .num), .val (.str x)] σ (.val (enc (named x .num))) σ := by
      intro σ
      exact named_leaf c x _ ⟨by kernel_rfl, by kernel_rfl, by kernel_rfl, by kernel_rfl, by kernel_rfl, by kernel_rfl⟩ rfl m σ
    have ih : ∀ p ∈ [a, .num], ∀ σ, Cal c (m + 1) (.ref 124) [.val (enc p), .val (.str x)] σ (.val (enc (named x p))) σ := by
      intro p hp
      simp only [List.mem_cons, List.not_mem_nil, or_false] at hp
      rcases hp with rfl | rfl
      · exact iha (by omega) (m + 1) (by omega)
      · exact h0
    (refine' Cal.fn2 rfl rfl ?_ rfl rfl rfl rfl (fun s v u => BindsTo.of_eq rfl) ?_ ?_ ?_ ?_ rfl rfl rfl; rotate_left; kernel_rfl; decide; decide); (ksl_open Exec.skip; kqd_all); (ksl_open Exec.retT; kqd_all); (ksl_open Exec.ret; kqd_in); rfl
  | union a b iha ihb =>
    intro hz n hn σ
    rw [sz_union] at hz
    rw [hgt_union] at hn
    obtain ⟨m, rfl⟩ := gt1 hn
    have hq : [enc a, enc b] = [a, b].map enc := rfl
    have ih : ∀ p ∈ [a, b], ∀ σ, Cal c m (.ref 124) [.val (enc p), .val (.str x)] σ (.val (enc (named x p))) σ := by
      intro p hp
      simp only [List.mem_cons, List.not_mem_nil, or_false] at hp
      rcases hp with rfl | rfl
      · exact iha (by omega) m (by omega)
      · exact ihb (by omega) m (by omega)
    (refine' Cal.fn2 rfl rfl ?_ rfl rfl rfl rfl (fun s v u => BindsTo.of_eq rfl) ?_ ?_ ?_ ?_ rfl rfl rfl; rotate_left; kernel_rfl; decide; decide); (ksl_open Exec.skip; kqd_all); (ksl_open Exec.skip; kqd_all); (ksl_open Exec.skip; kqd_all); (ksl_open Exec.retT; kqd_all); (ksl_open Exec.ret; kqd_in); rfl
  | typeof a iha =>
    intro hz n hn σ
    rw [sz_typeof] at hz
    rw [hgt_typeof] at hn
    obtain ⟨m, rfl⟩ := gt1 hn
    have ih := iha (by omega) m (by omega)
    (refine' Cal.fn2 rfl rfl ?_ rfl rfl rfl rfl (fun s v u => BindsTo.of_eq rfl) ?_ ?_ ?_ ?_ rfl rfl rfl; rotate_left; kernel_rfl; decide; decide); (ksl_open Exec.skip; kqd_all); (ksl_open Exec.skip; kqd_all); (ksl_open Exec.skip; kqd_all); (ksl_open Exec.skip; kqd_all); (ksl_open Exec.retT; kqd_all); (ksl_open Exec.ret; kqd_in); rfl
  | all y hi b ihhi ihb =>
    intro hz n hn σ
    rw [sz_all] at hz
    rw [hgt_all] at hn
    obtain ⟨m, rfl⟩ := gt1 hn
    have ih1 := ihhi (by omega) m (by omega)
    have ih2 := ihb (by omega) m (by omega)
    by_cases h : y = x
    · subst h
      have e1 := eqv_str_eq y
      (refine' Cal.fn2 rfl rfl ?_ rfl rfl rfl rfl (fun s v u => BindsTo.of_eq rfl) ?_ ?_ ?_ ?_ rfl rfl rfl; rotate_left; kernel_rfl; decide; decide); (ksl_open Exec.skip; kqd_all); (ksl_open Exec.skip; kqd_all); (ksl_open Exec.skip; kqd_all); (ksl_open Exec.skip; kqd_all); (ksl_open Exec.skip; kqd_all); (ksl_open Exec.skip; kqd_all); (first | (ksl_open Exec.step; ksl_open After.asg; kqd_in; decide; exact fun _ _ => rfl) | (ksl_open Exec.step; ksl_open After.comp; kd_mem; rfl; (intro env h; cases env; cases h; rfl))); (ksl_open Exec.retT; kqd_all); (ksl_open Exec.ret; kqd_in); (rw [named_all, if_pos rfl]; rfl)
    · have e1 := eqv_str_ne h
      by_cases h2 : y = tT
      · have e2 : PyData.eqv (.str y) (.str (Str.ofString "T.1")) = true := by rw [h2]; exact eqv_str_eq _
        (refine' Cal.fn2 rfl rfl ?_ rfl rfl rfl rfl (fun s v u => BindsTo.of_eq rfl) ?_ ?_ ?_ ?_ rfl rfl rfl; rotate_left; kernel_rfl; decide; decide); (ksl_open Exec.skip; kqd_all); (ksl_open Exec.skip; kqd_all); (ksl_open Exec.skip; kqd_all); (ksl_open Exec.skip; kqd_all); (ksl_open Exec.skip; kqd_all); (ksl_open Exec.skip; kqd_all); (first | (ksl_open Exec.step; ksl_open After.asg; kqd_in; decide; exact fun _ _ => rfl) | (ksl_open Exec.step; ksl_open After.comp; kd_mem; rfl; (intro env h; cases env; cases h; rfl))); (ksl_open Exec.skip; kqd_all); (ksl_open Exec.ret; kqd_in); rw [named_all, if_neg h, if_pos h2]; rfl
      · have e2 : PyData.eqv (.str y) (.str (Str.ofString "T.1")) = false := eqv_str_ne h2
        (refine' Cal.fn2 rfl rfl ?_ rfl rfl rfl rfl (fun s v u => BindsTo.of_eq rfl) ?_ ?_ ?_ ?_ rfl rfl rfl; rotate_left; kernel_rfl; decide; decide); (ksl_open Exec.skip; kqd_all); (ksl_open Exec.skip; kqd_all); (ksl_open Exec.skip; kqd_all); (ksl_open Exec.skip; kqd_all); (ksl_open Exec.skip; kqd_all); (ksl_open Exec.skip; kqd_all); (first | (ksl_open Exec.step; ksl_open After.asg; kqd_in; decide; exact fun _ _ => rfl) | (ksl_open Exec.step; ksl_open After.comp; kd_mem; rfl; (intro env h; cases env; cases h; rfl))); (ksl_open Exec.skip; kqd_all); (ksl_open Exec.ret; kqd_in); rw [named_all, if_neg h, if_neg h2]; rfl
  | tup ps r ihp ihr =>
    intro hz n hn σ
    rw [sz_tup] at hz
    rw [hgt_tup] at hn
    obtain ⟨m, rfl⟩ := gt1 hn
    have hl := encs_length ps
    have hl2 := szs_len ps
    have ih : ∀ p ∈ ps, ∀ σ, Cal c m (.ref 124) [.val (enc p), .val (.str x)] σ (.val (enc (named x p))) σ := by
      intro p hp
      have := szs_mem hp
      have := hgts_mem hp
      exact ihp p hp (by omega) m (by omega)
    cases r with
    | none =>
      (refine' Cal.fn2 rfl rfl ?_ rfl rfl rfl rfl (fun s v u => BindsTo.of_eq rfl) ?_ ?_ ?_ ?_ rfl rfl rfl; rotate_left; kernel_rfl; decide; decide); (ksl_open Exec.skip; kqd_all); (ksl_open Exec.skip; kqd_all); (ksl_open Exec.retT; kqd_all); (ksl_open Exec.ret; kqd_in); simp [named_tup, enc_tup, encs_map, nameds_map, namedO_none, namedO_some, encO_none, encO_some, Function.comp_def]
    | some r =>
      have q0 := encO_not_none r
      have ih2 : ∀ σ, Cal c m (.ref 124) [.val (encO (some r)), .val (.str x)] σ (.val (enc (named x r))) σ := ihr r rfl (by rw [szO_some] at hz; omega) m (by rw [hgtO_some] at hn; omega)
      (refine' Cal.fn2 rfl rfl ?_ rfl rfl rfl rfl (fun s v u => BindsTo.of_eq rfl) ?_ ?_ ?_ ?_ rfl rfl rfl; rotate_left; kernel_rfl; decide; decide); (ksl_open Exec.skip; kqd_all); (ksl_open Exec.skip; kqd_all); (ksl_open Exec.retT; kqd_all); (ksl_open Exec.ret; kqd_in); simp [named_tup, enc_tup, encs_map, nameds_map, namedO_none, namedO_some, encO_none, encO_some, Function.comp_def]
theorem met_rows (rows more : List Int) (number : Int) : (PyData.list (rows.map .int ++ more.map fun o => .int (min 2 (number + o)))) = .list ((rows ++ more.map fun o => min 2 (number + o)).map .int) := by simp
theorem mt_tup (c : Cx) (ps : List K) (r : Option K) (hz : szs ps ≤ 100000) (n : Nat) (h21 : ∀ p ∈ ps ++ twice r, (met p).length ≤ 21) (ih : ∀ p ∈ ps ++ twice r, ∀ σ, Cal c (n + 1) (.ref 107) [.val (enc p)] σ (.val (.list ((met p).map .int))) σ) (σ : Sto) :
    Cal c (n + 2) (.ref 107) [.val (enc (.tup ps r))] σ (.val (.list ((met (.tup ps r)).map .int))) σ := by
  have hel := encs_length ps
  have hsl := szs_len ps
  (refine' Cal.fn1 rfl rfl ?_ rfl rfl rfl rfl (fun s v => BindsTo.of_eq rfl) ?_ ?_ ?_ ?_ rfl rfl rfl; rotate_left; kernel_rfl; decide; decide); (ksl_open Exec.skip; kqd_all); (ksl_open Exec.skip; kqd_all); (ksl_open Exec.skip; kqd_all); (ksl_open Exec.skip; kqd_all); (first | (ksl_open Exec.step; ksl_open After.asg; kqd_in; decide; exact fun _ _ => rfl) | (ksl_open Exec.step; ksl_open After.comp; kd_mem; rfl; (intro env h; cases env; cases h; rfl)))
  · refine Exec.forIn (σ₁ := σ) (ds := (ps ++ twice r).map enc) (R₁ := .next [(Str.ofString "found", .val (.list (((ps ++ twice r).foldl (fun found p => last3 (metRows found (met p))) [0]).map .int))), (Str.ofString "kind", .val (enc (.tup ps r)))] σ) ?_ ?_ ?_ ?_ ?_
    · apply EvIt.list
      cases r with
      | none =>
        refine Ev.as (σ₁ := σ) (b := .val (.list (encs ps ++ []))) ?_ (by rw [encs_map]; simp [twice])
        kqd_in
      | some r =>
        have q0 := encO_not_none r
        refine Ev.as (σ₁ := σ) (b := .val (.list (encs ps ++ [encO (some r), encO (some r)]))) ?_ (by rw [encs_map]; simp [twice, encO_some])
        kqd_in
    · rfl
    · exact fun _ _ => rfl
    · refine ForR.fold (f := enc) (G := fun found => [(Str.ofString "found", .val (.list (found.map PyData.int))), (Str.ofString "kind", .val (enc (.tup ps r)))]) (stepF := fun found p => last3 (metRows found (met p)))
        (ok := fun _ found => found.length ≤ 3) ?_ [0] (by simp)
      intro p rest hp found hok
      have h1 := h21 p hp
      have ihp := ih p hp
      refine ⟨last3_len _, ?_⟩
      have hrl : (metRows found (met p)).length < 64 := by
        rw [metRows_len]
        have := Nat.mul_le_mul hok h1
        omega
      refine ⟨(Str.ofString "found", .val (.list ((last3 (metRows found (met p))).map .int))) :: (Str.ofString "rows", .val (.list ((metRows found (met p)).map .int))) :: (Str.ofString "more", .val (.list ((met p).map .int))) :: (Str.ofString "found", .val (.list (found.map .int))) :: [(Str.ofString "kind", .val (enc (.tup ps r)))], ?_,
        Gam.keep (Gam.skip rfl (Gam.skip rfl (Gam.skip rfl fun _ _ e => e)))⟩
      refine Exec.step (After.unpack (σ₁ := σ) (xs := [Str.ofString "more", Str.ofString "rows"]) (bs := [.val (.list ((met p).map .int)), .val (.list [])]) (sw := true) (EvT.disp (Evs.cons (σ₁ := σ) ?_ (Evs.cons (σ₁ := σ) (Ev.list (ds := []) Evs.vnil (by decide)) Evs.nil rfl) rfl) (by simp [sizeLine])) rfl rfl (by decide) (by decide) (fun _ _ => rfl) ?_) ?_
      · kqd_in
      · intro env h; cases env; cases h; rfl
      · dsimp only [List.zip, List.zipWith, List.cons_append, List.nil_append]
        refine Exec.weaken (Γ' := [(Str.ofString "rows", .val (.list (([] : List Int).map .int))), (Str.ofString "more", .val (.list ((met p).map .int))), (Str.ofString "found", .val (.list (found.map .int))), (Str.ofString "kind", .val (enc (.tup ps r)))]) ?_ ?_
        · exact Gam.swap (by decide) (Gam.skip rfl fun _ _ e => e)
        · refine Exec.forIn (σ₁ := σ) (ds := found.map .int) (R₁ := .next [(Str.ofString "rows", .val (.list ((metRows found (met p)).map .int))), (Str.ofString "more", .val (.list ((met p).map .int))), (Str.ofString "found", .val (.list (found.map .int))), (Str.ofString "kind", .val (enc (.tup ps r)))] σ) ?_ ?_ ?_ ?_ ?_
          · kp_flats
          · rfl
          · exact fun _ _ => rfl
          · refine ForR.fold (f := PyData.int) (G := fun rows => [(Str.ofString "rows", .val (.list (rows.map PyData.int))), (Str.ofString "more", .val (.list ((met p).map .int))), (Str.ofString "found", .val (.list (found.map PyData.int))), (Str.ofString "kind", .val (enc (.tup ps r)))]) (stepF := fun rows number => rows ++ (met p).map fun o => min 2 (number + o))
              (ok := fun rest rows => rows.length + rest.length * 21 ≤ 63) ?_ [] ?_
            · intro number rest hnum rows hok
              refine ⟨?_, ?_⟩
              · simp only [List.length_append, List.length_map, List.length_cons, Nat.succ_mul] at hok ⊢; omega
              · rw [← met_rows]
                refine ⟨(Str.ofString "rows", .val (.list (rows.map .int ++ (met p).map fun o => .int (min 2 (number + o))))) :: (Str.ofString "number", .val (.int number)) :: (Str.ofString "rows", .val (.list (rows.map .int))) :: [(Str.ofString "more", .val (.list ((met p).map .int))), (Str.ofString "found", .val (.list (found.map PyData.int))), (Str.ofString "kind", .val (enc (.tup ps r)))], ?_,
                  Gam.keep (Gam.skip rfl (Gam.skip rfl fun _ _ e => e))⟩
                simp only [List.length_cons, Nat.succ_mul] at hok
                (first | (ksl_open Exec.step; ksl_open After.asg; kqd_in; decide; exact fun _ _ => rfl) | (ksl_open Exec.step; ksl_open After.comp; kd_mem; rfl; (intro env h; cases env; cases h; rfl)))
                with_reducible exact Exec.nil
            · simp; omega
          · dsimp only [Goes]
            refine Exec.step (After.asg (σ₁ := σ) (Ev.as (b := .val (.list (((sortI (metRows found (met p))).map PyData.int).drop (((sortI (metRows found (met p))).map PyData.int).length - 3)))) (Ev.sliceLast (m := 3) (by decide) ?_ ?_) (by rw [last3_eq])) (by decide) fun _ _ => rfl) Exec.nil
            · kqd_in
            · rw [List.length_map, (sortI_perm _).length_eq]; simp only [sizeLine]; omega
    · dsimp only [Goes]
      (ksl_open Exec.ret; kqd_in)
  · rw [met_tup, mets_fold, metO_fold, List.foldl_append]

theorem met_leaf (c : Cx) (k : K) (h : lfw k = true) (ho : met k = [0]) (m : Nat) (σ : Sto) : Cal c (m + 1) (.ref 107) [.val (enc k)] σ (.val (.list ((met k).map .int))) σ := by
  obtain ⟨tl, he⟩ := enc_word k
  obtain ⟨w1, w2, w3, w4⟩ := word_no k h
  generalize wordK k = w at he w1 w2 w3 w4
  have w5 : (!PyData.eqv (.str w) (dS "tuple")) = true := by rw [w4]; rfl
  (refine' Cal.fn1 rfl rfl ?_ rfl rfl rfl rfl (fun s v => BindsTo.of_eq rfl) ?_ ?_ ?_ ?_ rfl rfl rfl; rotate_left; kernel_rfl; decide; decide); (ksl_open Exec.skip; kqd_all); (ksl_open Exec.skip; kqd_all); (ksl_open Exec.skip; kqd_all); (ksl_open Exec.retT; kqd_all); (ksl_open Exec.ret; kqd_in)
  rw [ho]; rfl
theorem met_ok (c : Cx) : ∀ k : K, sz k ≤ 100000 → hgt k ≤ 3 → ∀ n, hgt k + 3 ≤ n → ∀ σ, Cal c n (.ref 107) [.val (enc k)] σ (.val (.list ((met k).map .int))) σ := by
  intro k
  induction k using K.ind with
  | var y =>
    intro hz h3 n hn σ
    obtain ⟨m, rfl⟩ := gt1 hn
    by_cases h : y = tT
    · have e2 : PyData.eqv (.str y) (.str (Str.ofString "T.1")) = true := by rw [h]; exact eqv_str_eq _
      (refine' Cal.fn1 rfl rfl ?_ rfl rfl rfl rfl (fun s v => BindsTo.of_eq rfl) ?_ ?_ ?_ ?_ rfl rfl rfl; rotate_left; kernel_rfl; decide; decide); (ksl_open Exec.retT; kqd_all); (ksl_open Exec.ret; kqd_in); simp [met_var, h]
    · have e2 : PyData.eqv (.str y) (.str (Str.ofString "T.1")) = false := eqv_str_ne h
      (refine' Cal.fn1 rfl rfl ?_ rfl rfl rfl rfl (fun s v => BindsTo.of_eq rfl) ?_ ?_ ?_ ?_ rfl rfl rfl; rotate_left; kernel_rfl; decide; decide); (ksl_open Exec.retT; kqd_all); (ksl_open Exec.ret; kqd_in); simp [met_var, h]
  | union a b iha ihb =>
    intro hz h3 n hn σ
    rw [sz_union] at hz
    rw [hgt_union] at hn h3
    obtain ⟨m, rfl⟩ := gt1 hn
    have ih1 := iha (by omega) (by omega) m (by omega)
    have ih2 := ihb (by omega) (by omega) m (by omega)
    have l1 : (met a).length ≤ 3 * 2 ^ 3 := Nat.le_trans (met_len a) (Nat.mul_le_mul_left _ (Nat.pow_le_pow_right (by decide) (by omega)))
    have l2 : (met b).length ≤ 3 * 2 ^ 3 := Nat.le_trans (met_len b) (Nat.mul_le_mul_left _ (Nat.pow_le_pow_right (by decide) (by omega)))
    (refine' Cal.fn1 rfl rfl ?_ rfl rfl rfl rfl (fun s v => BindsTo.of_eq rfl) ?_ ?_ ?_ ?_ rfl rfl rfl; rotate_left; kernel_rfl; decide; decide); (ksl_open Exec.skip; kqd_all); (ksl_open Exec.retT; kqd_all); (ksl_open Exec.ret; kqd_in); simp [met_union]
  | all x hi b _ ihb =>
    intro hz h3 n hn σ
    rw [sz_all] at hz
    rw [hgt_all] at hn h3
    obtain ⟨m, rfl⟩ := gt1 hn
    have ih2 := ihb (by omega) (by omega) m (by omega)
    by_cases h : x = tT
    · have e2 : PyData.eqv (.str x) (.str (Str.ofString "T.1")) = true := by rw [h]; exact eqv_str_eq _
      (refine' Cal.fn1 rfl rfl ?_ rfl rfl rfl rfl (fun s v => BindsTo.of_eq rfl) ?_ ?_ ?_ ?_ rfl rfl rfl; rotate_left; kernel_rfl; decide; decide); (ksl_open Exec.skip; kqd_all); (ksl_open Exec.skip; kqd_all); (ksl_open Exec.retT; kqd_all); (ksl_open Exec.ret; kqd_in); simp [met_all, h]
    · have e2 : PyData.eqv (.str x) (.str (Str.ofString "T.1")) = false := eqv_str_ne h
      (refine' Cal.fn1 rfl rfl ?_ rfl rfl rfl rfl (fun s v => BindsTo.of_eq rfl) ?_ ?_ ?_ ?_ rfl rfl rfl; rotate_left; kernel_rfl; decide; decide); (ksl_open Exec.skip; kqd_all); (ksl_open Exec.skip; kqd_all); (ksl_open Exec.retT; kqd_all); (ksl_open Exec.ret; kqd_in); simp [met_all, h]
  | tup ps r ihp ihr =>
    intro hz h3 n hn σ
    rw [sz_tup] at hz
    rw [hgt_tup] at hn h3
    obtain ⟨m, rfl⟩ := gt2 hn
    have hk : ∀ p ∈ ps ++ twice r, hgt p ≤ 2 ∧ sz p ≤ 100000 ∧ hgt p + 4 ≤ m + 2 ∧ (sz p ≤ 100000 → hgt p ≤ 3 → ∀ n, hgt p + 3 ≤ n → ∀ σ, Cal c n (.ref 107) [.val (enc p)] σ (.val (.list ((met p).map .int))) σ) := by
      intro p hp
      rcases List.mem_append.mp hp with hp | hp
      · have := szs_mem hp
        have := hgts_mem hp
        exact ⟨by omega, by omega, by omega, ihp p hp⟩
      · cases r with
        | none => cases hp
        | some r =>
          simp [twice] at hp
          subst hp
          rw [szO_some] at hz
          rw [hgtO_some] at hn h3
          exact ⟨by omega, by omega, by omega, ihr p rfl⟩
    refine mt_tup c ps r (by omega) m (fun p hp => ?_) (fun p hp => ?_) σ
    · have := (hk p hp).1
      have l1 : (met p).length ≤ 3 * 2 ^ 2 := Nat.le_trans (met_len p) (Nat.mul_le_mul_left _ (Nat.pow_le_pow_right (by decide) (by omega)))
      omega
    · obtain ⟨h1, h2, h4, h5⟩ := hk p hp
      exact h5 h2 (by omega) (m + 1) (by omega)
  | _ =>
    intro hz h3 n hn σ
    obtain ⟨m, rfl⟩ := gt1 hn
    exact met_leaf c _ rfl rfl m σ

theorem whole_ok (c : Cx) (x : Str) (hi b : K) (hz : sz b ≤ 100000) (h3 : hgt b ≤ 3) (n : Nat) (hn : 8 ≤ n) (σ : Sto) : Cal c n (.ref 119) [.val (enc (.all x hi b))] σ (.val (.bool (whole x b))) σ := by
  obtain ⟨m, rfl⟩ := gt1 hn
  have hs := sz_named x b
  have hh := hgt_named x b
  have h1 := named_ok c x b hz m (by omega)
  have h2 := met_ok c (named x b) (by omega) (by omega) m (by omega)
  have h4 := within_ok c (named x b) (by omega) m (by omega)
  have hne := met_ne (named x b)
  (refine' Cal.fn1 rfl rfl ?_ rfl rfl rfl rfl (fun s v => BindsTo.of_eq rfl) ?_ ?_ ?_ ?_ rfl rfl rfl; rotate_left; kernel_rfl; decide; decide); (first | (ksl_open Exec.step; ksl_open After.asg; kqd_in; decide; exact fun _ _ => rfl) | (ksl_open Exec.step; ksl_open After.comp; kd_mem; rfl; (intro env h; cases env; cases h; rfl))); (ksl_open Exec.ret; kqd_in); rfl
theorem cs_leaf (c : Cx) (k : K) (h : ∃ w tl, enc k = .tuple (.str w :: tl) ∧ PyData.eqv (.str w) (dS "union") = false ∧ PyData.eqv (.str w) (dS "all") = false ∧ PyData.eqv (.str w) (dS "tuple") = false) (n : Nat) (σ : Sto) :
    Cal c (n + 1) (.ref 129) [.val (enc k)] σ (.val (.list [enc k])) σ := by
  obtain ⟨w, tl, he, w1, w2, w3⟩ := h
  have w4 : (!PyData.eqv (.str w) (dS "tuple")) = true := by rw [w3]; rfl
  (refine' Cal.fn1 rfl rfl ?_ rfl rfl rfl rfl (fun s v => BindsTo.of_eq rfl) ?_ ?_ ?_ ?_ rfl rfl rfl; rotate_left; kernel_rfl; decide; decide)
  (ksl_open Exec.skip; kqd_all)
  apply Exec.skip
  · refine Tst.andF ?_
    kqd_all
  · (ksl_open Exec.retT; kqd_all)
    (ksl_open Exec.ret; kqd_in)
  · rfl
theorem cs_union (c : Cx) (a b : K) (n : Nat) (hs : (casesK a).length + (casesK b).length ≤ 1000) (iha : ∀ σ, Cal c n (.ref 129) [.val (enc a)] σ (.val (.list ((casesK a).map enc))) σ) (ihb : ∀ σ, Cal c n (.ref 129) [.val (enc b)] σ (.val (.list ((casesK b).map enc))) σ) (σ : Sto) :
    Cal c (n + 1) (.ref 129) [.val (enc (.union a b))] σ (.val (.list ((casesK (.union a b)).map enc))) σ := by
  (refine' Cal.fn1 rfl rfl ?_ rfl rfl rfl rfl (fun s v => BindsTo.of_eq rfl) ?_ ?_ ?_ ?_ rfl rfl rfl; rotate_left; kernel_rfl; decide; decide); (ksl_open Exec.retT; kqd_all); (ksl_open Exec.ret; kqd_in); simp [casesK_union]
theorem cs_all (c : Cx) (x : Str) (hi b : K) (n : Nat) (h0 : whole x b = false → (casesK b).length ≤ 1000 ∧ ∀ σ, Cal c n (.ref 129) [.val (enc b)] σ (.val (.list ((casesK b).map enc))) σ) (hw : ∀ σ, Cal c n (.ref 119) [.val (enc (.all x hi b))] σ (.val (.bool (whole x b))) σ) (σ : Sto) :
    Cal c (n + 1) (.ref 129) [.val (enc (.all x hi b))] σ (.val (.list ((casesK (.all x hi b)).map enc))) σ := by
  cases h : whole x b with
  | true =>
    rw [h] at hw
    (refine' Cal.fn1 rfl rfl ?_ rfl rfl rfl rfl (fun s v => BindsTo.of_eq rfl) ?_ ?_ ?_ ?_ rfl rfl rfl; rotate_left; kernel_rfl; decide; decide); (ksl_open Exec.skip; kqd_all)
    apply Exec.skip
    · refine Tst.andT ?_ (Tst.andF ?_)
      · kqd_all
      · kqd_all
    · (ksl_open Exec.retT; kqd_all); (ksl_open Exec.ret; kqd_in)
    · simp [casesK_all, h]
  | false =>
    rw [h] at hw
    obtain ⟨hs, ihb⟩ := h0 h
    (refine' Cal.fn1 rfl rfl ?_ rfl rfl rfl rfl (fun s v => BindsTo.of_eq rfl) ?_ ?_ ?_ ?_ rfl rfl rfl; rotate_left; kernel_rfl; decide; decide); (ksl_open Exec.skip; kqd_all); apply Exec.retT
    · kqd_all
    · (with_reducible apply Exec.ret)
      refine Ev.as (σ₁ := σ) (b := .val (.list ((casesK b).map fun q => .tuple ([dS "all", .str x, .tuple [dS "bottom"], enc hi] ++ [enc q])))) ?_ rfl
      (with_reducible apply Ev.comp)
      kp_flats; (with_reducible apply CompG.one); (with_reducible apply C1.maps); (with_reducible rfl); intro p hp τ
      · refine Ev.bin (d₁ := .tuple [dS "all", .str x, .tuple [dS "bottom"], enc hi]) (σ₁ := σ ++ [τ]) (Ev.as (Ev.sliceUpto (m := 4) (xs := [dS "all", .str x, .tuple [dS "bottom"], enc hi, enc b]) (Ev.name rfl (by decide)) (by simp) (by simp [sizeLine])) rfl) (d₂ := .tuple [enc p]) ?_ (bin_cat_tuple (by simp [sizeLine]))
        kqd_in
      rfl; rfl; kt_len; decide; rfl; rfl; exact fun _ _ => rfl; decide
    · simp [casesK_all, h]
      intro a _; rfl
noncomputable def csD (cs : List K) : PyData := .list (cs.map enc)
theorem cs_tup (c : Cx) (ps : List K) (r : Option K) (hps : ps.length ≤ 100000) (n : Nat) (hs : (casesK (.tup ps r)).length ≤ 1000) (ih : ∀ p ∈ ps, ∀ σ, Cal c n (.ref 129) [.val (enc p)] σ (.val (.list ((casesK p).map enc))) σ) (σ : Sto) :
    Cal c (n + 1) (.ref 129) [.val (enc (.tup ps r))] σ (.val (.list ((casesK (.tup ps r)).map enc))) σ := by
  have hel := encs_length ps
  have hle : ∀ cs ∈ ps.map casesK, cs.length ≤ 1000 ∧ 0 < cs.length := by
    intro cs hcs
    obtain ⟨p, hp, rfl⟩ := List.mem_map.mp hcs
    exact ⟨Nat.le_trans (cases_part ps r p hp) hs, List.length_pos_iff.mpr (cases_ne p)⟩
  refine Cal.freeze (rs := []) ?_ rfl
  (refine' Cal.fn1 rfl rfl ?_ rfl rfl rfl rfl (fun s v => BindsTo.of_eq rfl) ?_ ?_ ?_ ?_ rfl rfl rfl; rotate_left; kernel_rfl; decide; decide)
  · (ksl_open Exec.skip; kqd_all)
    apply Exec.skip
    · refine Tst.andF ?_
      kqd_all
    · (ksl_open Exec.skip; kqd_all)
      refine Exec.step (After.unpack (σ₁ := σ ++ [[]]) (xs := [Str.ofString "some", Str.ofString "many", Str.ofString "found"]) (bs := [.val (.list ((ps.map casesK).map csD)), .val (.int ((1 : Nat) : Int)), .cell σ.length]) (sw := true) (EvT.disp (Evs.cons (σ₁ := σ) ?_ (Evs.cons (σ₁ := σ) Ev.cint (Evs.cons (σ₁ := σ ++ [[]]) (Ev.listCell (ds := []) Evs.vnil (by decide)) Evs.nil rfl) rfl) rfl) (by simp [sizeLine])) rfl rfl (by decide) (by decide) (fun _ _ => rfl) ?_) ?_
      · refine Ev.as (σ₁ := σ) (b := .val (.list (ps.map fun p => .list ((casesK p).map enc)))) ?_ (by simp [csD, Function.comp_def])
        kqd_in
      · intro env h; cases env; cases h; rfl
      · dsimp only [List.zip, List.zipWith, List.cons_append, List.nil_append]
        refine Exec.weaken (Γ' := [(Str.ofString "many", .val (.int ((1 : Nat) : Int))), (Str.ofString "some", .val (.list ((ps.map casesK).map csD))), (Str.ofString "found", .cell σ.length), (Str.ofString "kind", .val (enc (.tup ps r)))]) (Gam.swap (by decide) fun _ _ e => e) ?_
        refine Exec.forIn (σ₁ := σ ++ [[]]) (ds := (ps.map casesK).map csD) (R₁ := .next [(Str.ofString "many", .val (.int ((prodLen (ps.map casesK) : Nat) : Int))), (Str.ofString "some", .val (.list ((ps.map casesK).map csD))), (Str.ofString "found", .cell σ.length), (Str.ofString "kind", .val (enc (.tup ps r)))] (σ ++ [[]])) ?_ ?_ ?_ ?_ ?_
        · kp_flats
        · rfl
        · exact fun _ _ => rfl
        · refine ForR.fold (f := csD) (G := fun many => [(Str.ofString "many", .val (.int ((many : Nat) : Int))), (Str.ofString "some", .val (.list ((ps.map casesK).map csD))), (Str.ofString "found", .cell σ.length), (Str.ofString "kind", .val (enc (.tup ps r)))]) (stepF := fun many cs => many * cs.length)
            (ok := fun _ _ => True) ?_ 1 trivial
          intro cs rest hcs many _
          have hl := (hle cs hcs).1
          refine ⟨trivial, (Str.ofString "many", .val (.int ((many * cs.length : Nat) : Int))) :: (Str.ofString "cases", .val (csD cs)) :: (Str.ofString "many", .val (.int ((many : Nat) : Int))) :: [(Str.ofString "some", .val (.list ((ps.map casesK).map csD))), (Str.ofString "found", .cell σ.length), (Str.ofString "kind", .val (enc (.tup ps r)))], ?_,
            Gam.keep (Gam.skip rfl (Gam.skip rfl fun _ _ e => e))⟩
          refine Exec.step (After.asg (σ₁ := σ ++ [[]]) (Ev.bin (σ₁ := σ ++ [[]]) (d₁ := .int ((many : Nat) : Int)) (d₂ := .int ((cs.length : Nat) : Int)) ?_ ?_ (bin_mulN (by omega))) (by decide) fun _ _ => rfl) Exec.nil
          · kqd_in
          · refine Ev.as (σ₁ := σ ++ [[]]) (b := .val (.int ((cs.map enc).length : Int))) ?_ (by rw [List.length_map])
            unfold csD
            kqd_in
        · dsimp only [Goes]
          have hm : prodLen (ps.map casesK) ≤ 1000 := by rw [cases_tup_len, casesKs_map] at hs; exact hs
          refine Exec.forIn (σ₁ := σ ++ [[]]) (ds := (List.range (prodLen (ps.map casesK))).map fun i => PyData.int (i : Nat)) (R₁ := .next [(Str.ofString "many", .val (.int ((prodLen (ps.map casesK) : Nat) : Int))), (Str.ofString "some", .val (.list ((ps.map casesK).map csD))), (Str.ofString "found", .cell σ.length), (Str.ofString "kind", .val (enc (.tup ps r)))]
            (σ ++ [(List.range (prodLen (ps.map casesK))).foldl (fun fnd i => fnd ++ [enc (.tup (rowAt (ps.map casesK).reverse i []).1 r)]) []])) ?_ ?_ ?_ ?_ ?_
          · refine EvIt.range rfl (by kernel_rfl) (by omega) rfl ?_
            kqd_in
          · rfl
          · exact fun _ _ => rfl
          · refine ForR.foldS (f := fun i : Nat => PyData.int (i : Nat)) (G := fun _ => [(Str.ofString "many", .val (.int ((prodLen (ps.map casesK) : Nat) : Int))), (Str.ofString "some", .val (.list ((ps.map casesK).map csD))), (Str.ofString "found", .cell σ.length), (Str.ofString "kind", .val (enc (.tup ps r)))])
              (S := fun fnd => σ ++ [fnd]) (stepF := fun fnd i => fnd ++ [enc (.tup (rowAt (ps.map casesK).reverse i []).1 r)]) (ok := fun rest fnd => fnd.length + rest.length ≤ 1000) ?_ [] (by simp; omega)
            intro i rest hi fnd hok
            simp only [List.length_cons] at hok
            refine ⟨by simp; omega, ?_⟩
            have hrl := rowAt_len (ps.map casesK).reverse i []
            rw [List.length_reverse, List.length_map, List.length_nil] at hrl
            refine ⟨(Str.ofString "row", .val (.list ((rowAt (ps.map casesK).reverse i []).1.map enc))) :: (Str.ofString "number", .val (.int (((rowAt (ps.map casesK).reverse i []).2 : Nat) : Int))) :: [(Str.ofString "many", .val (.int ((prodLen (ps.map casesK) : Nat) : Int))), (Str.ofString "some", .val (.list ((ps.map casesK).map csD))), (Str.ofString "found", .cell σ.length), (Str.ofString "kind", .val (enc (.tup ps r)))], ?_,
              Gam.skip rfl (Gam.skip rfl fun _ _ e => e)⟩
            (first | (ksl_open Exec.step; ksl_open After.asg; kqd_in; decide; exact fun _ _ => rfl) | (ksl_open Exec.step; ksl_open After.comp; kd_mem; rfl; (intro env h; cases env; cases h; rfl)))
            refine Exec.forIn (σ₁ := σ ++ [fnd]) (ds := (ps.map casesK).reverse.map csD) (R₁ := .next ((Str.ofString "row", .val (.list ((rowAt (ps.map casesK).reverse i []).1.map enc))) :: (Str.ofString "number", .val (.int (((rowAt (ps.map casesK).reverse i []).2 : Nat) : Int))) :: [(Str.ofString "many", .val (.int ((prodLen (ps.map casesK) : Nat) : Int))), (Str.ofString "some", .val (.list ((ps.map casesK).map csD))), (Str.ofString "found", .cell σ.length), (Str.ofString "kind", .val (enc (.tup ps r)))]) (σ ++ [fnd])) ?_ ?_ ?_ ?_ ?_
            · apply EvIt.list
              refine Ev.as (σ₁ := σ ++ [fnd]) (b := .val (.list ((ps.map casesK).map csD).reverse)) ?_ (by rw [List.map_reverse])
              refine Ev.sliceRev ?_ (by simp [sizeLine]; omega)
              kqd_in
            · rfl
            · exact fun _ _ => rfl
            · rw [← rowAt_fold]
              refine ForR.fold (f := csD) (G := fun s : List K × Nat => (Str.ofString "row", .val (.list (s.1.map enc))) :: (Str.ofString "number", .val (.int ((s.2 : Nat) : Int))) :: [(Str.ofString "many", .val (.int ((prodLen (ps.map casesK) : Nat) : Int))), (Str.ofString "some", .val (.list ((ps.map casesK).map csD))), (Str.ofString "found", .cell σ.length), (Str.ofString "kind", .val (enc (.tup ps r)))])
                (stepF := fun (s : List K × Nat) cs => ((cs[s.2 % cs.length]?.getD .num) :: s.1, s.2 / cs.length)) (ok := fun rest s => s.1.length + rest.length ≤ 100000) ?_ ([], i) (by simp; omega)
              rintro cs rest hcs ⟨row, num⟩ hok
              obtain ⟨hl, hp⟩ := hle cs (List.mem_reverse.mp hcs)
              simp only [List.length_cons] at hok
              have hlt := Nat.mod_lt num hp
              have hget : (cs.map enc)[((num % cs.length : Nat) : Int).toNat]? = some (enc (cs[num % cs.length]?.getD .num)) := by
                rw [Int.toNat_natCast, List.getElem?_map, List.getElem?_eq_getElem hlt]; rfl
              refine ⟨by simp only [List.length_cons]; omega, (Str.ofString "row", .val (.list (((cs[num % cs.length]?.getD .num) :: row).map enc))) :: (Str.ofString "number", .val (.int ((num / cs.length : Nat) : Int))) :: (Str.ofString "cases", .val (csD cs)) :: (Str.ofString "row", .val (.list (row.map enc))) :: (Str.ofString "number", .val (.int ((num : Nat) : Int))) :: [(Str.ofString "many", .val (.int ((prodLen (ps.map casesK) : Nat) : Int))), (Str.ofString "some", .val (.list ((ps.map casesK).map csD))), (Str.ofString "found", .cell σ.length), (Str.ofString "kind", .val (enc (.tup ps r)))], ?_,
                Gam.keep (Gam.keep (Gam.skip rfl (Gam.skip rfl (Gam.skip rfl fun _ _ e => e))))⟩
              refine Exec.step (After.unpack (σ₁ := σ ++ [fnd]) (xs := [Str.ofString "row", Str.ofString "number"]) (bs := [.val (.list (((cs[num % cs.length]?.getD .num) :: row).map enc)), .val (.int ((num / cs.length : Nat) : Int))]) (sw := true) (EvT.disp (Evs.cons (σ₁ := σ ++ [fnd]) ?_ (Evs.cons (σ₁ := σ ++ [fnd]) ?_ Evs.nil rfl) rfl) (by simp [sizeLine])) rfl rfl (by decide) (by decide) (fun _ _ => rfl) ?_) Exec.nil
              · refine Ev.as (σ₁ := σ ++ [fnd]) (b := .val (.list ([enc (cs[num % cs.length]?.getD .num)] ++ row.map enc))) (Ev.bin (σ₁ := σ ++ [fnd]) (Ev.list (ds := [enc (cs[num % cs.length]?.getD .num)]) (Evs.vcons rfl (Ev.item (i := ((num % cs.length : Nat) : Int)) (d := csD cs) (σ₁ := σ ++ [fnd]) ?_ ?_ (.inr rfl) (by omega) (by omega) hget fun _ _ => rfl) Evs.vnil) (by simp [sizeLine])) ?_ (bin_cat_list (by simp [sizeLine]; omega))) rfl
                · kqd_in
                · refine Ev.bin (σ₁ := σ ++ [fnd]) (d₁ := .int ((num : Nat) : Int)) (d₂ := .int ((cs.length : Nat) : Int)) ?_ ?_ (bin_modN hp)
                  · kqd_in
                  · refine Ev.as (σ₁ := σ ++ [fnd]) (b := .val (.int ((cs.map enc).length : Int))) ?_ (by rw [List.length_map])
                    unfold csD
                    kqd_in
                · kqd_in
              · refine Ev.bin (σ₁ := σ ++ [fnd]) (d₁ := .int ((num : Nat) : Int)) (d₂ := .int ((cs.length : Nat) : Int)) ?_ ?_ (bin_divN hp (by omega))
                · kqd_in
                · refine Ev.as (σ₁ := σ ++ [fnd]) (b := .val (.int ((cs.map enc).length : Int))) ?_ (by rw [List.length_map])
                  unfold csD
                  kqd_in
              · intro env h; cases env; cases h; rfl
            · dsimp only [Goes]
              refine Exec.step (After.expr (Ev.append' (i := σ.length) (d := enc (.tup (rowAt (ps.map casesK).reverse i []).1 r)) (ds := fnd) (σ₁ := σ ++ [fnd]) rfl (by decide) (Ev.as (σ₁ := σ ++ [fnd]) (b := .val (.tuple [dS "tuple", .tuple ((rowAt (ps.map casesK).reverse i []).1.map enc), encO r])) ?_ (by rw [enc_tup, encs_map])) rfl (by simp) (by omega) rfl (by simp)) (fun env h => ?_) fun _ => rfl) Exec.nil
              · kqd_in
              · cases env; cases h; rfl
          · dsimp only [Goes]
            have hF : (List.range (prodLen (ps.map casesK))).foldl (fun fnd i => fnd ++ [enc (.tup (rowAt (ps.map casesK).reverse i []).1 r)]) [] = (casesK (.tup ps r)).map enc := by
              rw [casesK_tup, List.map_map, casesKs_map]
              generalize List.range (prodLen (ps.map casesK)) = l
              have : ∀ acc : List PyData, l.foldl (fun fnd i => fnd ++ [enc (.tup (rowAt (ps.map casesK).reverse i []).1 r)]) acc = acc ++ l.map (fun i => enc (.tup (rowAt (ps.map casesK).reverse i []).1 r)) := by
                induction l with
                | nil => intro acc; simp
                | cons x xs ih => intro acc; rw [List.foldl_cons, ih]; simp
              rw [this, List.nil_append]
              rfl
            rw [hF]
            exact Exec.ret (Ev.name rfl (by decide))
  · rfl
theorem cs_ok (c : Cx) : ∀ k : K, sz k ≤ 100000 → hgt k ≤ 4 → (casesK k).length ≤ 1000 → ∀ n, hgt k + 9 ≤ n → ∀ σ, Cal c n (.ref 129) [.val (enc k)] σ (.val (.list ((casesK k).map enc))) σ := by
  intro k
  induction k using K.ind with
  | union a b iha ihb =>
    intro hz h3 hs n hn σ
    rw [sz_union] at hz
    rw [hgt_union] at hn h3
    simp only [casesK_union, List.length_append] at hs
    obtain ⟨m, rfl⟩ := gt1 hn
    exact cs_union c a b m hs (iha (by omega) (by omega) (by omega) m (by omega)) (ihb (by omega) (by omega) (by omega) m (by omega)) σ
  | all x hi b _ ihb =>
    intro hz h3 hs n hn σ
    rw [sz_all] at hz
    rw [hgt_all] at hn h3
    obtain ⟨m, rfl⟩ := gt1 hn
    refine cs_all c x hi b m (fun hw => ?_) (whole_ok c x hi b (by omega) (by omega) m (by omega)) σ
    simp only [casesK_all, hw, Bool.false_eq_true, if_false, List.length_map] at hs
    exact ⟨hs, ihb (by omega) (by omega) hs m (by omega)⟩
  | tup ps r ihp _ =>
    intro hz h3 hs n hn σ
    rw [sz_tup] at hz
    rw [hgt_tup] at hn h3
    obtain ⟨m, rfl⟩ := gt1 hn
    have := szs_len ps
    refine cs_tup c ps r (by omega) m hs (fun p hp => ?_) σ
    have := szs_mem hp
    have := hgts_mem hp
    exact ihp p hp (by omega) (by omega) (Nat.le_trans (cases_part ps r p hp) hs) m (by omega)
  | _ =>
    intro hz h3 hs n hn σ
    obtain ⟨m, rfl⟩ := gt1 hn
    exact cs_leaf c _ ⟨_, _, rfl, by decide +kernel, by decide +kernel, by decide +kernel⟩ m σ
noncomputable def isTup : K → Bool
  | .tup _ _ => true
  | _ => false
theorem word_tup (k : K) (h : isTup k = false) : PyData.eqv (.str (wordK k)) (dS "tuple") = false := by
  cases k <;> first | (cases h; done) | kernel_rfl
theorem kr_ok (c : Cx) (k : K) (hz : sz k ≤ 100000) (h3 : hgt k ≤ 3) (h16 : (casesK k).length ≤ 16) (f1 : occ tT k = (maxL (met k), within k)) (f3 : lcases k = casesK k) (n : Nat) (hn : 40 ≤ n) (σ : Sto) :
    Cal c n (.ref 141) [.val (enc k)] σ (.val (.bool true)) σ := by
  obtain ⟨m, rfl⟩ := gt1 hn
  have a1 := met_ok c k hz h3 m (by omega)
  have a2 := within_ok c k hz m (by omega)
  have a3 := occ_ok c (Str.ofString "T.1") k hz m (by omega)
  have a4 := diag_ok c (Str.ofString "T.1") k hz m (by omega)
  have a5 := cs_ok c k hz (by omega) (by omega) m (by omega)
  have a6 := lc_ok c k hz m (by omega)
  have a7 := emp_ok c k hz m (by omega)
  have a8 := none_ok c k hz m (by omega)
  have g3 : occD (Str.ofString "T.1") k = .tuple [.int (maxL (met k)), .bool (within k)] := by
    show PyData.tuple [.int (occ tT k).1, .bool (occ tT k).2] = _
    rw [f1]
  have g4 : diag k (Str.ofString "T.1") = (decide (1 < maxL (met k)) && !within k) := by
    show (decide (1 < (occ tT k).1) && !(occ tT k).2) = _
    rw [f1]
  rw [g3] at a3
  rw [g4] at a4
  rw [f3] at a6
  have hne := met_ne k
  have hd := cases_depth k (by omega)
  have e16 : decide ((((casesK k).map enc).length : Int) ≤ 16) = true := by simp; omega
  (refine' Cal.fn1 rfl rfl ?_ rfl rfl rfl rfl (fun s v => BindsTo.of_eq rfl) ?_ ?_ ?_ ?_ rfl rfl rfl; rotate_left; kernel_rfl; decide; decide)
  · refine Exec.step (After.unpack (σ₁ := σ) (xs := [Str.ofString "many", Str.ofString "has_room"]) (bs := [.val (.int (maxL (met k))), .val (.bool (within k))]) (sw := true) (EvT.disp (Evs.cons (σ₁ := σ) ?_ (Evs.cons (σ₁ := σ) ?_ Evs.nil rfl) rfl) (by simp [sizeLine])) rfl rfl (by decide) (by decide) (fun _ _ => rfl) ?_) ?_
    · kqd_in
    · kqd_in
    · intro env h; cases env; cases h; rfl
    · dsimp only [List.zip, List.zipWith, List.cons_append, List.nil_append]
      apply Exec.skip
      · refine Tst.orF (Tst.cmp (σ₁ := σ) (b₁ := .val (.tuple [.int (maxL (met k)), .bool (within k)])) ?_ (b₂ := .val (.tuple [.int (maxL (met k)), .bool (within k)])) ?_ rfl rfl (cmp_ne_same (by simp [PyData.depth, PyData.depthAll])) rfl)
          (Tst.orF (Tst.cmp (σ₁ := σ) (b₁ := .val (.bool (decide (1 < maxL (met k)) && !within k))) ?_ (b₂ := .val (.bool (decide (1 < maxL (met k)) && !within k))) ?_ rfl rfl (cmp_ne_same (by simp [PyData.depth])) rfl) Tst.orNil)
        · kqd_in
        · kqd_in
        · kqd_in
        · kqd_in
      · (first | (ksl_open Exec.step; ksl_open After.asg; kqd_in; decide; exact fun _ _ => rfl) | (ksl_open Exec.step; ksl_open After.comp; kd_mem; rfl; (intro env h; cases env; cases h; rfl)))
        apply Exec.skip
        · refine Tst.orF (Tst.andT ?_ (Tst.andF (Tst.cmp (σ₁ := σ) (b₁ := .val (.list ((casesK k).map enc))) ?_ (b₂ := .val (.list ((casesK k).map enc))) ?_ rfl rfl (cmp_ne_same hd) rfl)))
            (Tst.orF (Tst.cmp (σ₁ := σ) (b₁ := .val (.bool (emp k))) ?_ (b₂ := .val (.bool (emp k))) ?_ rfl rfl (cmp_ne_same (by simp [PyData.depth])) rfl) Tst.orNil)
          · kqd_all
          · kqd_in
          · kqd_in
          · kqd_in
          · kqd_in
        · by_cases ht : isTup k = false
          · obtain ⟨tl, he⟩ := enc_word k
            have w1 : (!PyData.eqv (.str (wordK k)) (dS "tuple")) = true := by rw [word_tup k ht]; rfl
            generalize wordK k = w at he w1
            (ksl_open Exec.retT; kqd_all); (ksl_open Exec.ret; kqd_in)
          have ht := eq_true_of_ne_false ht
          cases k with
          | tup ps r =>
            (ksl_open Exec.skip; kqd_all)
            have b1 := tail_ok c ps r hz m (by omega)
            cases r with
            | none =>
              refine Exec.ret (b := .val (.bool true)) (Ev.cmp (σ₁ := σ) (b₁ := .val .none) ?_ (b₂ := .val .none) ?_ rfl rfl (cmp_eq_same (by simp [PyData.depth])) rfl)
              · kqd_in
              · kqd_in
            | some r =>
              have q0 := encO_not_none r
              rw [sz_tup, szO_some] at hz
              rw [hgt_tup, hgtO_some] at h3
              have b2 : ∀ σ, Cal c m (.ref 134) [.val (encO (some r))] σ (.val (.bool (emp r))) σ := none_ok c r (by omega) m (by omega)
              have hdr := depth_enc r
              cases he : emp r with
              | true =>
                rw [he] at b2
                have b3 : ∀ σ, Cal c m (.ref 76) [.val (enc (.tup ps (some r)))] σ (.val .none) σ := fun σ => Cal.as (b1 σ) (by simp [he])
                clear b1
                refine Exec.ret (b := .val (.bool true)) (Ev.cmp (σ₁ := σ) (b₁ := .val .none) ?_ (b₂ := .val .none) ?_ rfl rfl (cmp_eq_same (by simp [PyData.depth])) rfl)
                · kqd_in
                · kqd_in
              | false =>
                rw [he] at b2
                have b3 : ∀ σ, Cal c m (.ref 76) [.val (enc (.tup ps (some r)))] σ (.val (encO (some r))) σ := fun σ => Cal.as (b1 σ) (by simp [he, encO_some])
                clear b1
                refine Exec.ret (b := .val (.bool true)) (Ev.cmp (σ₁ := σ) (b₁ := .val (encO (some r))) ?_ (b₂ := .val (encO (some r))) ?_ rfl rfl (cmp_eq_same (by show (enc r).depth ≤ 60; omega)) rfl)
                · kqd_in
                · kqd_in
          | _ => cases ht
  · rfl
theorem wr_ok (c : Cx) (n : Nat) (hn : 60 ≤ n) (σ : Sto) : Cal c n (.ref 146) [] σ (.val (.bool true)) σ := by
  obtain ⟨m, rfl⟩ := gt2 hn
  have hh : ∀ {x : Nat}, x ≤ 59 → x ≤ m + 1 := fun h => Nat.le_trans h (Nat.le_of_succ_le_succ hn)
  have t1 : ∀ σ, Cal c (m + 1) (.ref 23) [.val (.list []), .val (enc itemK)] σ (.val (.tuple [dS "tuple", .tuple [], enc itemK])) σ := fun σ => tof2_l c [] (by decide) _ m σ
  have t2 : ∀ σ, Cal c (m + 1) (.ref 23) [.val (.list [enc pairK])] σ (.val (.tuple [dS "tuple", .tuple [enc pairK], .none])) σ := fun σ => tof1_l c [enc pairK] (by simp) m σ
  have t3 : ∀ σ, Cal c (m + 1) (.ref 23) [.val (.list (List.replicate 7 [enc pairK]).flatten)] σ (.val (enc sevenK)) σ := fun σ => tof1_l c (List.replicate 7 [enc pairK]).flatten (by simp [List.replicate]) m σ
  have t4 : ∀ σ, Cal c (m + 1) (.ref 23) [.val (.list [enc pairK, enc itemK])] σ (.val (.tuple [dS "tuple", .tuple [enc pairK, enc itemK], .none])) σ := fun σ => tof1_l c [enc pairK, enc itemK] (by simp) m σ
  have t5 : ∀ σ, Cal c (m + 1) (.ref 23) [.val (.list [enc itemK]), .val (.tuple [dS "bottom"])] σ (.val (.tuple [dS "tuple", .tuple [enc itemK], .tuple [dS "bottom"]])) σ := fun σ => tof2_l c [enc itemK] (by simp) _ m σ
  have a1 : ∀ σ, Cal c (m + 1) (.ref 40) [.val (.tuple [dS "tuple", .tuple [], enc itemK]), .val (dS "T.1")] σ (.val (.tuple [.int 2, .bool false])) σ := fun σ =>
    Cal.as (occ_ok c tT (.tup [] (some itemK)) (by decide) (m + 1) (hh (by decide)) σ) (by show B.val (.tuple [.int (occ tT (.tup [] (some itemK))).1, .bool (occ tT (.tup [] (some itemK))).2]) = _; rw [occ_k1])
  have a2 : ∀ σ, Cal c (m + 1) (.ref 54) [.val (.tuple [dS "tuple", .tuple [enc pairK], .none]), .val (dS "T.1")] σ (.val (.bool false)) σ := fun σ =>
    Cal.as (diag_ok c tT (.tup [pairK] none) (by decide) (m + 1) (hh (by decide)) σ) (by rw [diag_k2])
  have a3 : ∀ σ, Cal c (m + 1) (.ref 59) [.val (enc sevenK)] σ (.val (.list ((lcases sevenK).map enc))) σ := lc_ok c sevenK (by decide) (m + 1) (hh (by decide))
  have a4 : ∀ σ, Cal c (m + 1) (.ref 59) [.val (enc wholeK)] σ (.val (.list [enc wholeK])) σ := fun σ => Cal.as (lc_ok c wholeK (by decide) (m + 1) (hh (by decide)) σ) (by rw [whole_lc]; rfl)
  have a5 : ∀ σ, Cal c (m + 1) (.ref 76) [.val (.tuple [dS "tuple", .tuple [enc itemK], .tuple [dS "bottom"]])] σ (.val .none) σ := fun σ => Cal.as (tail_ok c [itemK] (some .bottom) (by decide) (m + 1) (hh (by decide)) σ) (by simp [emp])
  refine Cal.fn (ps := []) (bs := []) rfl rfl ?_ rfl rfl rfl rfl (fun s W vs S r => ⟨[], by cases r; exact BindsTo.of_eq rfl, .nil⟩) ?_ rfl ?_ ?_ ?_ rfl rfl rfl; kernel_rfl; decide; decide; decide; apply Exists.intro; apply And.intro; dsimp only [List.zip, List.zipWith]
  · refine Exec.step (After.unpack (σ₁ := σ) (xs := [Str.ofString "item", Str.ofString "text"]) (bs := vals [enc itemK, enc textK]) (sw := false) (EvT.val (ds := [enc itemK, enc textK]) (Ev.as (b := .val (.tuple [.tuple [dS "var", dS "T.1"], .tuple [dS "name", dS "String", .tuple []]])) ?_ rfl)) rfl rfl (by decide) (by decide) (fun _ _ => rfl) ?_) ?_
    · kqd_in
    · intro env h; cases env; cases h; rfl
    · dsimp only [vals, List.map, List.zip, List.zipWith, List.cons_append, List.nil_append]
      refine Exec.step (After.asg (σ₁ := σ) (b := .val (enc pairK)) (Ev.as (b := .val (.tuple [dS "union", .tuple [enc itemK, enc textK]])) ?_ rfl) (by decide) fun _ _ => rfl) ?_
      · kqd_in
      · apply Exec.skip
        · kqd_all
        · (first | (ksl_open Exec.step; ksl_open After.asg; kqd_in; decide; exact fun _ _ => rfl) | (ksl_open Exec.step; ksl_open After.comp; kd_mem; rfl; (intro env h; cases env; cases h; rfl)))
          apply Exec.skip
          · refine Tst.orF (Tst.cmp (σ₁ := σ) (b₁ := .val (.int (((lcases sevenK).map enc).length : Int))) ?_ (b₂ := .val (.int 64)) ?_ rfl rfl (cmp_ne (by decide) (by rw [List.length_map, seven_len]; decide +kernel)) rfl)
              (Tst.orF (Tst.cmp (σ₁ := σ) (b₁ := .val (.list [])) (Ev.comp (σ₁ := σ) (EvIt.list (ds := (lcases sevenK).map enc) (Ev.name rfl (by decide))) (CompG.one (C1.none (ps := lcases sevenK) (f := enc) rfl ?_) rfl rfl (by decide)) (by decide) rfl rfl (fun _ _ => rfl) (by decide)) (b₂ := .val (.list [])) (Ev.list (ds := []) Evs.vnil (by decide)) rfl rfl (cmp_ne (by decide) (by decide +kernel)) rfl) Tst.orNil)
            · have hl : ((lcases sevenK).map enc).length ≤ 1000 := by rw [List.length_map, seven_len]; decide
              generalize (lcases sevenK).map enc = ls at hl
              kqd_in
            · exact Ev.cint
            · intro q hq τ
              obtain ⟨ps, g, rfl, hl6, hl7, hg, hlike, hany⟩ := chk7_eq (List.all_eq_true.mp seven_chk q hq)
              have hgd : (encs ps)[(6 : Int).toNat]? = some (enc g) := by rw [encs_map, List.getElem?_map]; show (ps[6]?).map enc = _; rw [hg]; rfl
              have hle := encs_length ps
              have hne : (!PyData.eqv (enc g) (enc pairK)) = false := by rw [hlike]; rfl
              refine .inr ⟨_, rfl, Tst.orF (Tst.cmp (σ₁ := σ ++ [τ]) (b₁ := .val (enc g)) ?_ (b₂ := .val (enc pairK)) (Ev.name rfl (by decide)) rfl rfl (cmp_ne (Nat.le_trans (Nat.min_le_right _ _) (by decide)) hne) rfl)
                (Tst.orF (Tst.cmp (σ₁ := σ ++ [τ]) (b₁ := .val (enc pairK)) (Ev.name rfl (by decide)) (b₂ := .val (.tuple ((encs ps).take 6))) ?_ rfl rfl (cmp_in_tuple (Nat.le_trans (Nat.min_le_right _ _) (by decide)) hany) rfl) Tst.orNil)⟩
              · refine Ev.item (σ₁ := σ ++ [τ]) (xs := encs ps) (i := 6) ?_ Ev.cint (.inl rfl) (by decide) (by decide) hgd fun _ _ => rfl
                kqd_in
              · refine Ev.sliceUpto (m := 6) (xs := encs ps) ?_ (by rw [hle]; exact hl6) (by rw [hle]; simp only [sizeLine]; omega)
                kqd_in
          · refine Exec.step (After.asg (σ₁ := σ) (b := .val (enc wholeK)) (Ev.as (b := .val (.tuple [dS "all", dS "T.1", .tuple [dS "bottom"], .tuple [dS "name", dS "Any", .tuple []], .tuple [dS "tuple", .tuple [enc pairK, enc itemK], .none]])) ?_ rfl) (by decide) fun _ _ => rfl) ?_
            · kqd_in
            · refine Exec.ret (b := .val (.bool true)) (Ev.andT (Ev.cmp (σ₁ := σ) (b₁ := .val (.list [enc wholeK])) ?_ (b₂ := .val (.list [enc wholeK])) ?_ rfl rfl (cmp_eq_same (by decide)) rfl) (Ev.boolOne ?_))
              · kqd_in
              · kqd_in
              · kqd_in
  · rfl
noncomputable def dropOf : List Int → Int
  | [] => 4
  | n :: _ => n
noncomputable def flowOf (ns : List Int) : Int := if 0 ≤ dropOf ns then dropOf ns else 7 - dropOf ns
theorem flow_pos (ns : List Int) : 0 ≤ flowOf ns := by unfold flowOf; split <;> omega
noncomputable def vialA (ns : List Int) : Int := if 1000000000000000000 ≤ flowOf ns then flowOf ns else 0
noncomputable def vialB (ns : List Int) : Int := flowOf ns % 1000000103 + 43
theorem vialA_pos (ns : List Int) : 0 ≤ vialA ns := by have := flow_pos ns; unfold vialA; split <;> omega
theorem vialB_pos (ns : List Int) : 0 ≤ vialB ns := by unfold vialB; omega
theorem vial_ok (c : Cx) (a : Addr) (vs : List Value) (ns : List Int) (hL : c.hb.IsList a vs.toArray) (hI : IntsAre vs ns) (n : Nat) (σ : Sto) :
    Cal c (n + 1) (.ref 83) [.raw (.ref a)] σ (.cell σ.length) (σ ++ [[.int (vialA ns), .int (vialB ns)]]) := by
  (refine' Cal.fn1 rfl rfl ?_ rfl rfl rfl rfl (fun s v => BindsTo.of_eq rfl) ?_ ?_ ?_ ?_ rfl rfl rfl; rotate_left; kernel_rfl; decide; decide)
  · refine Exec.step (After.asg (σ₁ := σ) (b := .val (.int (dropOf ns))) ?_ (by decide) fun _ _ => rfl) ?_
    · cases ns with
      | nil =>
        refine Ev.ifF (σ₁ := σ) (Tst.rawNe (Ev.name rfl (by decide)) hL hI) ?_
        exact Ev.cint
      | cons m ms =>
        refine Ev.ifT (σ₁ := σ) (Tst.rawNe (Ev.name rfl (by decide)) hL hI) ?_
        refine Ev.callT (σ₁ := σ) rfl (by kernel_rfl) rfl (by decide) (by decide) rfl (Evs.cons (σ₁ := σ) (Ev.rawItem (m := m) (σ₁ := σ) (Ev.name rfl (by decide)) Ev.cint hL hI (by decide) (by decide) rfl fun _ _ => rfl) Evs.nil rfl) (CalR.cal1 cal_int_int)
    · refine Exec.step (After.asg (σ₁ := σ) (b := .val (.int (flowOf ns))) ?_ (by decide) fun _ _ => rfl) ?_
      · unfold flowOf
        by_cases h : 0 ≤ dropOf ns
        · have h1 : decide (0 ≤ dropOf ns) = true := decide_eq_true h
          rw [if_pos h]
          kqd_in
        · have h1 : decide (0 ≤ dropOf ns) = false := decide_eq_false h
          rw [if_neg h]
          kqd_in
      · refine Exec.ret (Ev.listCell (σ₁ := σ) (ds := [.int (vialA ns), .int (vialB ns)]) (Evs.vcons (σ₁ := σ) rfl ?_ (Evs.vcons (σ₁ := σ) rfl ?_ Evs.vnil)) (by simp [sizeLine]))
        · unfold vialA
          by_cases h : 1000000000000000000 ≤ flowOf ns
          · have h1 : decide (1000000000000000000 ≤ flowOf ns) = true := decide_eq_true h
            rw [if_pos h]
            kqd_in
          · have h1 : decide (1000000000000000000 ≤ flowOf ns) = false := decide_eq_false h
            rw [if_neg h]
            kqd_in
        · unfold vialB
          kqd_in
  · rfl
noncomputable def dripD (a b top : Int) : Int := if 0 < a then a % top else (b * 45371 + 907) % 2147483647 / 5 % top
noncomputable def dripA (a top : Int) : Int := if 0 < a then a / top else a
noncomputable def dripB (a b : Int) : Int := if 0 < a then b else (b * 45371 + 907) % 2147483647
theorem dripD_lt {a b top : Int} (ht : 0 < top) : 0 ≤ dripD a b top ∧ dripD a b top < top := by
  unfold dripD; split
  · exact ⟨Int.emod_nonneg _ (by omega), Int.emod_lt_of_pos _ ht⟩
  · exact ⟨Int.emod_nonneg _ (by omega), Int.emod_lt_of_pos _ ht⟩
theorem drip_ok (c : Cx) (i : Nat) (a b top : Int) (ht : 0 < top) (ht' : top < 1000000000) (σ : Sto) (hσ : σ[i]? = some [.int a, .int b]) (n : Nat) :
    Cal c (n + 1) (.ref 90) [.cell i, .val (.int top)] σ (.val (.int (dripD a b top))) (σ.set i [.int (dripA a top), .int (dripB a b)]) := by
  have hlen : i < σ.length := (List.getElem?_eq_some_iff.mp hσ).1
  by_cases h : 0 < a
  · have h1 : decide (0 < a) = true := decide_eq_true h
    have eD : dripD a b top = a % top := if_pos h
    have eA : dripA a top = a / top := if_pos h
    have eB : dripB a b = b := if_pos h
    rw [eD, eA, eB]
    (refine' Cal.fn2 rfl rfl ?_ rfl rfl rfl rfl (fun s v u => BindsTo.of_eq rfl) ?_ ?_ ?_ ?_ rfl rfl rfl; rotate_left; kernel_rfl; decide; decide)
    · apply Exec.retT
      · refine Tst.cmp (σ₁ := σ) (b₁ := .val (.int a)) (b₂ := .val (.int 0)) (Ev.itemCell (σ₁ := σ) (xs := [.int a, .int b]) (Ev.name rfl (by decide)) Ev.cint hσ (by decide) (by decide) rfl fun _ _ => rfl) Ev.cint rfl rfl (cmp_gt h1) rfl
      · refine Exec.step (After.asg (σ₁ := σ) (b := .val (.int (a % top))) (Ev.bin (σ₁ := σ) (d₁ := .int a) (d₂ := .int top) (Ev.itemCell (σ₁ := σ) (xs := [.int a, .int b]) (Ev.name rfl (by decide)) Ev.cint hσ (by decide) (by decide) rfl fun _ _ => rfl) (Ev.name rfl (by decide)) (bin_mod ht)) (by decide) fun _ _ => rfl) ?_
        refine Exec.step (After.item (σ₁ := σ) (d := .int (a / top)) (i := i) (j := 0) rfl (by decide) (Ev.bin (σ₁ := σ) (d₁ := .int a) (d₂ := .int top) (Ev.itemCell (σ₁ := σ) (xs := [.int a, .int b]) (Ev.name rfl (by decide)) Ev.cint hσ (by decide) (by decide) rfl fun _ _ => rfl) (Ev.name rfl (by decide)) (bin_div ht ht')) hσ (by simp) (by simp) fun _ _ => rfl) ?_
        exact Exec.ret (Ev.name rfl (by decide))
    · rfl
  · have h1 : decide (0 < a) = false := decide_eq_false h
    have eD : dripD a b top = (b * 45371 + 907) % 2147483647 / 5 % top := if_neg h
    have eA : dripA a top = a := if_neg h
    have eB : dripB a b = (b * 45371 + 907) % 2147483647 := if_neg h
    rw [eD, eA, eB]
    have hσ' : (σ.set i [.int a, .int ((b * 45371 + 907) % 2147483647)])[i]? = some [.int a, .int ((b * 45371 + 907) % 2147483647)] := by simp [hlen]
    (refine' Cal.fn2 rfl rfl ?_ rfl rfl rfl rfl (fun s v u => BindsTo.of_eq rfl) ?_ ?_ ?_ ?_ rfl rfl rfl; rotate_left; kernel_rfl; decide; decide)
    · apply Exec.skip
      · refine Tst.cmp (σ₁ := σ) (b₁ := .val (.int a)) (b₂ := .val (.int 0)) (Ev.itemCell (σ₁ := σ) (xs := [.int a, .int b]) (Ev.name rfl (by decide)) Ev.cint hσ (by decide) (by decide) rfl fun _ _ => rfl) Ev.cint rfl rfl (cmp_gt h1) rfl
      · refine Exec.step (After.item (σ₁ := σ) (d := .int ((b * 45371 + 907) % 2147483647)) (i := i) (j := 1) rfl (by decide) (Ev.bin (σ₁ := σ) (d₁ := .int (b * 45371 + 907)) (d₂ := .int 2147483647) (Ev.bin (σ₁ := σ) (d₁ := .int (b * 45371)) (d₂ := .int 907) (Ev.bin (σ₁ := σ) (d₁ := .int b) (d₂ := .int 45371) (Ev.itemCell (σ₁ := σ) (xs := [.int a, .int b]) (Ev.name rfl (by decide)) Ev.cint hσ (by decide) (by decide) rfl fun _ _ => rfl) Ev.cint (bin_mul (IntMulOk.of_right (intBits_le_64 (by omega) (by omega))))) Ev.cint bin_add) Ev.cint (bin_mod (by decide))) hσ (by simp) (by simp) fun _ _ => rfl) ?_
        refine Exec.ret (b := .val (.int ((b * 45371 + 907) % 2147483647 / 5 % top))) (σ₁ := σ.set i [.int a, .int ((b * 45371 + 907) % 2147483647)]) ?_
        refine Ev.bin (σ₁ := σ.set i [.int a, .int ((b * 45371 + 907) % 2147483647)]) (d₁ := .int ((b * 45371 + 907) % 2147483647 / 5)) (d₂ := .int top) (Ev.bin (σ₁ := σ.set i [.int a, .int ((b * 45371 + 907) % 2147483647)]) (d₁ := .int ((b * 45371 + 907) % 2147483647)) (d₂ := .int 5) (Ev.itemCell (xs := [.int a, .int ((b * 45371 + 907) % 2147483647)]) (Ev.name rfl (by decide)) Ev.cint hσ' (by decide) (by decide) rfl fun _ _ => rfl) Ev.cint (bin_div (by decide) (by decide))) (Ev.name rfl (by decide)) (bin_mod ht)
    · rfl
theorem dripA_pos {a top : Int} (h : 0 ≤ a) (ht : 0 < top) : 0 ≤ dripA a top := by
  unfold dripA; split
  · exact Int.ediv_nonneg h (by omega)
  · exact h
theorem dripB_pos {a b : Int} (h : 0 ≤ b) : 0 ≤ dripB a b := by
  unfold dripB; split
  · exact h
  · exact Int.emod_nonneg _ (by decide)
noncomputable def leafs : List K := [.var (Str.ofString "T.1"), .var (Str.ofString "T.1"), .var (Str.ofString "R.1"), .nm (Str.ofString "Int64"), .nm (Str.ofString "String"), .fn, .bottom]
noncomputable def leafsD : List PyData := [.tuple [dS "var", dS "T.1"], .tuple [dS "var", dS "T.1"], .tuple [dS "var", dS "R.1"], .tuple [dS "name", dS "Int64", .tuple []], .tuple [dS "name", dS "String", .tuple []], .tuple [dS "fn", dS "f"], .tuple [dS "bottom"]]
theorem leafsD_eq : leafsD = leafs.map enc := rfl
theorem leafs_at (d : Int) (h0 : 0 ≤ d) (h7 : d < 7) : ∃ k, leafsD[d.toNat]? = some (enc k) ∧ lfK k = true := by
  have hl : d.toNat < leafs.length := by show d.toNat < 7; omega
  refine ⟨leafs[d.toNat], ?_, ?_⟩
  · rw [leafsD_eq, List.getElem?_map, List.getElem?_eq_getElem hl]; rfl
  · have : leafs.all lfK = true := rfl
    exact List.all_eq_true.mp this _ (List.getElem_mem hl)
theorem leaf_ok (c : Cx) (a b : Int) : ∃ k, lfK k = true ∧ ∀ (i : Nat) (σ : Sto), σ[i]? = some [.int a, .int b] → ∀ n, Cal c (n + 2) (.ref 97) [.cell i] σ (.val (enc k)) (σ.set i [.int (dripA a 7), .int (dripB a b)]) := by
  obtain ⟨h0, h7⟩ := dripD_lt (a := a) (b := b) (top := 7) (by decide)
  obtain ⟨k, hk, hlf⟩ := leafs_at (dripD a b 7) h0 h7
  refine ⟨k, hlf, fun i σ hσ n => ?_⟩
  have hd := drip_ok c i a b 7 (by decide) (by decide) σ hσ n
  (refine' Cal.fn1 rfl rfl ?_ rfl rfl rfl rfl (fun s v => BindsTo.of_eq rfl) ?_ ?_ ?_ ?_ rfl rfl rfl; rotate_left; kernel_rfl; decide; decide)
  · refine Exec.step (After.asg (σ₁ := σ) (b := .val (.list leafsD)) ?_ (by decide) fun _ _ => rfl) ?_
    · unfold leafsD
      kqd_in
    · refine Exec.ret (b := .val (enc k)) (Ev.item (σ₁ := σ) (xs := leafsD) (i := dripD a b 7) (Ev.name rfl (by decide)) ?_ (.inr rfl) h0 (by omega) hk fun _ _ => rfl)
      kqd_in
  · rfl
noncomputable abbrev VS (a b : Int) : List PyData := [.int a, .int b]
theorem set_at {σ : Sto} {i : Nat} (h : i < σ.length) (x : List PyData) : (σ.set i x)[i]? = some x := by simp [h]
theorem set_app {σ : Sto} {i : Nat} (h : i < σ.length) (x τ : List PyData) : (σ ++ [τ]).set i x = σ.set i x ++ [τ] := by rw [List.set_append, if_pos h]
noncomputable def KindP (c : Cx) (f : Nat) (a b : Int) (k : K) (a' b' : Int) : Prop :=
  Gen f k ∧ ∀ (i : Nat) (σ : Sto), i < σ.length → ∀ n, f + 3 ≤ n → Cal c n (.ref 102) [.cell i, .val (.int (f : Int))] (σ.set i (VS a b)) (.val (enc k)) (σ.set i (VS a' b'))
theorem KindP.app {c : Cx} {f : Nat} {a b : Int} {k : K} {a' b' : Int} (h : KindP c f a b k a' b') (i : Nat) (σ : Sto) (hl : i < σ.length) (n : Nat) (hn : f + 3 ≤ n) (τ : List PyData) :
    Cal c n (.ref 102) [.cell i, .val (.int (f : Int))] (σ.set i (VS a b) ++ [τ]) (.val (enc k)) (σ.set i (VS a' b') ++ [τ]) := by
  have := h.2 i (σ ++ [τ]) (by rw [List.length_append]; omega) n hn
  rwa [set_app hl, set_app hl] at this
theorem drip_set (c : Cx) (i : Nat) (a b top : Int) (ht : 0 < top) (ht' : top < 1000000000) (σ : Sto) (hl : i < σ.length) (n : Nat) :
    Cal c (n + 1) (.ref 90) [.cell i, .val (.int top)] (σ.set i (VS a b)) (.val (.int (dripD a b top))) (σ.set i (VS (dripA a top) (dripB a b))) := by
  have := drip_ok c i a b top ht ht' (σ.set i (VS a b)) (set_at hl _) n
  rwa [List.set_set] at this
theorem leaf_set (c : Cx) (a b : Int) : ∃ k a' b', lfK k = true ∧ ∀ (i : Nat) (σ : Sto), i < σ.length → ∀ n, Cal c (n + 2) (.ref 97) [.cell i] (σ.set i (VS a b)) (.val (enc k)) (σ.set i (VS a' b')) := by
  obtain ⟨k, hk, h⟩ := leaf_ok c a b
  refine ⟨k, dripA a 7, dripB a b, hk, fun i σ hl n => ?_⟩
  have := h i (σ.set i (VS a b)) (set_at hl _) n
  rwa [List.set_set] at this
inductive Seqs (P : Int → Int → K → Int → Int → Prop) : Int → Int → List K → Int → Int → Prop
  | nil (a b : Int) : Seqs P a b [] a b
  | cons {a b : Int} {k : K} {a' b' : Int} {ks : List K} {a'' b'' : Int} : P a b k a' b' → Seqs P a' b' ks a'' b'' → Seqs P a b (k :: ks) a'' b''
theorem Seqs.ex {P : Int → Int → K → Int → Int → Prop} (h : ∀ a b, ∃ k a' b', P a b k a' b') : ∀ (m : Nat) (a b : Int), ∃ ks a' b', ks.length = m ∧ Seqs P a b ks a' b'
  | 0, a, b => ⟨[], a, b, rfl, .nil a b⟩
  | m + 1, a, b => by
    obtain ⟨k, a1, b1, h1⟩ := h a b
    obtain ⟨ks, a2, b2, h2, h3⟩ := Seqs.ex h m a1 b1
    exact ⟨k :: ks, a2, b2, by rw [List.length_cons, h2], .cons h1 h3⟩
theorem Seqs.all {P : Int → Int → K → Int → Int → Prop} {Q : K → Prop} (hq : ∀ a b k a' b', P a b k a' b' → Q k) {a b : Int} {ks : List K} {a' b' : Int} (h : Seqs P a b ks a' b') : ∀ k ∈ ks, Q k := by
  induction h with
  | nil => exact fun _ h => nomatch h
  | cons h1 _ ih =>
    intro k hk
    rcases List.mem_cons.mp hk with rfl | hk
    · exact hq _ _ _ _ _ h1
    · exact ih k hk
theorem C1.seqs {c : Cx} {n : Nat} {sc : Scope} {Γ : Gam} {σ : Sto} {i : Nat} {e : Expr} {x : Str} {P : Int → Int → K → Int → Int → Prop} {g : K → PyData}
    (hE : ∀ d a b k a' b', P a b k a' b' → ∀ τ, Ev c n sc ((x, .val d) :: Γ) (σ.set i (VS a b) ++ [τ]) e (.val (g k)) (σ.set i (VS a' b') ++ [τ])) {a b : Int} {ks : List K} {a' b' : Int} (h : Seqs P a b ks a' b') :
    ∀ ds : List PyData, ds.length = ks.length → C1 c n sc x [] e Γ ds (σ.set i (VS a b)) (ks.map g) (σ.set i (VS a' b')) := by
  induction h with
  | nil => intro ds h; rw [List.length_eq_zero_iff.mp h]; exact .nil
  | cons h1 _ ih =>
    intro ds h
    cases ds with
    | nil => cases h
    | cons d ds => exact .cons (fun τ => .inl ⟨rfl, rfl, rfl⟩) (hE d _ _ _ _ _ h1) (by simp) (by simp) (ih ds (Nat.succ.inj h))
noncomputable def namesD : List PyData := [dS "S.1", dS "S.1", dS "S.1", dS "T.1"]
theorem names_at (d : Int) (h0 : 0 ≤ d) (h4 : d < 4) : ∃ x, namesD[d.toNat]? = some (.str x) := by
  have hl : d.toNat < 4 := by omega
  generalize d.toNat = j at hl
  match j, hl with
  | 0, _ => exact ⟨_, rfl⟩
  | 1, _ => exact ⟨_, rfl⟩
  | 2, _ => exact ⟨_, rfl⟩
  | 3, _ => exact ⟨_, rfl⟩
  | j + 4, h => omega
theorem kind_zero (c : Cx) (a b : Int) : ∃ k a' b', KindP c 0 a b k a' b' := by
  obtain ⟨k, a', b', hk, h⟩ := leaf_set c a b
  refine ⟨k, a', b', .leaf 0 k hk, fun i σ hl n hn => ?_⟩
  obtain ⟨m, rfl⟩ := gt3 hn
  have h1 := h i σ hl m
  (refine' Cal.fn2 rfl rfl ?_ rfl rfl rfl rfl (fun s v u => BindsTo.of_eq rfl) ?_ ?_ ?_ ?_ rfl rfl rfl; rotate_left; kernel_rfl; decide; decide); (first | (ksl_open Exec.step; ksl_open After.asg; kqd_in; decide; exact fun _ _ => rfl) | (ksl_open Exec.step; ksl_open After.comp; kd_mem; rfl; (intro env h; cases env; cases h; rfl))); (ksl_open Exec.retT; kqd_all); (ksl_open Exec.ret; kqd_in); rfl
theorem kind_succ (c : Cx) (f : Nat) (hf : f ≤ 2) (ih : ∀ a b, ∃ k a' b', KindP c f a b k a' b') (a b : Int) : ∃ k a' b', KindP c (f + 1) a b k a' b' := by
  have e1 : ((f + 1 : Nat) : Int) - 1 = (f : Int) := by omega
  have e0 : decide (0 < ((f + 1 : Nat) : Int)) = true := decide_eq_true (by omega)
  have hd := drip_set c (a := a) (b := b) (top := 11) (ht := by decide) (ht' := by decide)
  obtain ⟨w0, w11⟩ := dripD_lt (a := a) (b := b) (top := 11) (by decide)
  generalize dripD a b 11 = w at hd w0 w11
  generalize dripA a 11 = a1 at hd
  generalize dripB a b = b1 at hd
  by_cases h3 : w < 3
  · have t3 : decide (w < 3) = true := decide_eq_true h3
    obtain ⟨k, a', b', hk, h⟩ := leaf_set c a1 b1
    refine ⟨k, a', b', .leaf _ k hk, fun i σ hl n hn => ?_⟩
    obtain ⟨m, rfl⟩ := gt3 hn
    have h1 := h i σ hl m
    have h2 := hd i σ hl (m + 1)
    clear hd h ih
    (refine' Cal.fn2 rfl rfl ?_ rfl rfl rfl rfl (fun s v u => BindsTo.of_eq rfl) ?_ ?_ ?_ ?_ rfl rfl rfl; rotate_left; kernel_rfl; decide; decide); (first | (ksl_open Exec.step; ksl_open After.asg; kqd_in; decide; exact fun _ _ => rfl) | (ksl_open Exec.step; ksl_open After.comp; kd_mem; rfl; (intro env h; cases env; cases h; rfl))); (ksl_open Exec.retT; kqd_all); (ksl_open Exec.ret; kqd_in); rfl
  have t3 : decide (w < 3) = false := decide_eq_false h3
  by_cases h5 : w < 5
  · have t5 : decide (w < 5) = true := decide_eq_true h5
    obtain ⟨k1, a2, b2, p1⟩ := ih a1 b1
    obtain ⟨k2, a3, b3, p2⟩ := ih a2 b2
    refine ⟨.union k1 k2, a3, b3, .union p1.1 p2.1, fun i σ hl n hn => ?_⟩
    obtain ⟨m, rfl⟩ := gt2 hn
    have h1 := p1.2 i σ hl (m + 1) (by omega)
    have h4 := p2.2 i σ hl (m + 1) (by omega)
    rw [← e1] at h1 h4
    have h2 := hd i σ hl m
    clear hd ih p1 p2
    (refine' Cal.fn2 rfl rfl ?_ rfl rfl rfl rfl (fun s v u => BindsTo.of_eq rfl) ?_ ?_ ?_ ?_ rfl rfl rfl; rotate_left; kernel_rfl; decide; decide); (first | (ksl_open Exec.step; ksl_open After.asg; kqd_in; decide; exact fun _ _ => rfl) | (ksl_open Exec.step; ksl_open After.comp; kd_mem; rfl; (intro env h; cases env; cases h; rfl))); (ksl_open Exec.skip; kqd_all); (ksl_open Exec.retT; kqd_all); (ksl_open Exec.ret; kqd_in); rfl
  have t5 : decide (w < 5) = false := decide_eq_false h5
  by_cases h6 : w = 5
  · subst h6
    obtain ⟨k1, a2, b2, p1⟩ := ih a1 b1
    refine ⟨.arr k1, a2, b2, .arr p1.1, fun i σ hl n hn => ?_⟩
    obtain ⟨m, rfl⟩ := gt2 hn
    have h1 := p1.2 i σ hl (m + 1) (by omega)
    rw [← e1] at h1
    have h2 := hd i σ hl m
    clear hd ih p1
    (refine' Cal.fn2 rfl rfl ?_ rfl rfl rfl rfl (fun s v u => BindsTo.of_eq rfl) ?_ ?_ ?_ ?_ rfl rfl rfl; rotate_left; kernel_rfl; decide; decide); (first | (ksl_open Exec.step; ksl_open After.asg; kqd_in; decide; exact fun _ _ => rfl) | (ksl_open Exec.step; ksl_open After.comp; kd_mem; rfl; (intro env h; cases env; cases h; rfl))); (ksl_open Exec.skip; kqd_all); (ksl_open Exec.skip; kqd_all); (ksl_open Exec.retT; kqd_all); (ksl_open Exec.ret; kqd_in); rfl
  have t6 : PyData.eqv (.int w) (.int 5) = false := by simp [PyData.eqv, h6]
  by_cases h7 : w = 6
  · subst h7
    obtain ⟨k1, a2, b2, p1⟩ := ih a1 b1
    refine ⟨.typeof k1, a2, b2, .typeof p1.1, fun i σ hl n hn => ?_⟩
    obtain ⟨m, rfl⟩ := gt2 hn
    have h1 := p1.2 i σ hl (m + 1) (by omega)
    rw [← e1] at h1
    have h2 := hd i σ hl m
    clear hd ih p1
    (refine' Cal.fn2 rfl rfl ?_ rfl rfl rfl rfl (fun s v u => BindsTo.of_eq rfl) ?_ ?_ ?_ ?_ rfl rfl rfl; rotate_left; kernel_rfl; decide; decide); (first | (ksl_open Exec.step; ksl_open After.asg; kqd_in; decide; exact fun _ _ => rfl) | (ksl_open Exec.step; ksl_open After.comp; kd_mem; rfl; (intro env h; cases env; cases h; rfl))); (ksl_open Exec.skip; kqd_all); (ksl_open Exec.skip; kqd_all); (ksl_open Exec.skip; kqd_all); (ksl_open Exec.retT; kqd_all); (ksl_open Exec.ret; kqd_in); rfl
  have t7 : PyData.eqv (.int w) (.int 6) = false := by simp [PyData.eqv, h7]
  by_cases h8 : w = 7
  · subst h8
    have hd2 := drip_set c (a := a1) (b := b1) (top := 4) (ht := by decide) (ht' := by decide)
    obtain ⟨v0, v4⟩ := dripD_lt (a := a1) (b := b1) (top := 4) (by decide)
    generalize dripD a1 b1 4 = v at hd2 v0 v4
    generalize dripA a1 4 = a2 at hd2
    generalize dripB a1 b1 = b2 at hd2
    obtain ⟨x, hx⟩ := names_at v v0 v4
    obtain ⟨k1, a3, b3, hk, h⟩ := leaf_set c a2 b2
    obtain ⟨k2, a4, b4, p1⟩ := ih a3 b3
    refine ⟨.all x k1 k2, a4, b4, .all hk p1.1, fun i σ hl n hn => ?_⟩
    obtain ⟨m, rfl⟩ := gt3 hn
    have h1 := p1.2 i σ hl (m + 2) (by omega)
    rw [← e1] at h1
    have h2 := hd i σ hl (m + 1)
    have h4 := hd2 i σ hl (m + 1)
    have h5 := h i σ hl m
    clear hd ih p1 hd2 h
    (refine' Cal.fn2 rfl rfl ?_ rfl rfl rfl rfl (fun s v u => BindsTo.of_eq rfl) ?_ ?_ ?_ ?_ rfl rfl rfl; rotate_left; kernel_rfl; decide; decide)
    · (first | (ksl_open Exec.step; ksl_open After.asg; kqd_in; decide; exact fun _ _ => rfl) | (ksl_open Exec.step; ksl_open After.comp; kd_mem; rfl; (intro env h; cases env; cases h; rfl))); (ksl_open Exec.skip; kqd_all); (ksl_open Exec.skip; kqd_all); (ksl_open Exec.skip; kqd_all); (ksl_open Exec.skip; kqd_all)
      apply Exec.retT
      · kqd_all
      · refine Exec.step (After.asg (σ₁ := σ.set i (VS a2 b2)) (b := .val (.str x)) (Ev.item (σ₁ := σ.set i (VS a1 b1)) (xs := namesD) (i := v) (Ev.as (b := .val (.list [dS "S.1", dS "S.1", dS "S.1", dS "T.1"])) ?_ rfl) ?_ (.inr rfl) v0 (by omega) hx fun _ _ => rfl) (by decide) fun _ _ => rfl) ?_
        · kqd_in
        · kqd_in
        · (ksl_open Exec.ret; kqd_in)
    · rfl
  have t8 : PyData.eqv (.int w) (.int 7) = false := by simp [PyData.eqv, h8]
  have hd2 := drip_set c (a := a1) (b := b1) (top := 3) (ht := by decide) (ht' := by decide)
  obtain ⟨v0, v3⟩ := dripD_lt (a := a1) (b := b1) (top := 3) (by decide)
  generalize dripD a1 b1 3 = v at hd2 v0 v3
  generalize dripA a1 3 = a2 at hd2
  generalize dripB a1 b1 = b2 at hd2
  obtain ⟨j, rfl⟩ := Int.eq_ofNat_of_zero_le v0
  obtain ⟨ks, a3, b3, hj, hs⟩ := Seqs.ex ih j a2 b2
  have hks : ∀ k ∈ ks, Gen f k := Seqs.all (fun _ _ _ _ _ h => h.1) hs
  by_cases h9 : w = 10
  · subst h9
    obtain ⟨q, a4, b4, p1⟩ := ih a3 b3
    refine ⟨.tup ks (some q), a4, b4, .tup (by omega) hks (fun r hr => by cases hr; exact p1.1), fun i σ hl n hn => ?_⟩
    obtain ⟨m, rfl⟩ := gt2 hn
    have h1 := p1.2 i σ hl (m + 1) (by omega)
    rw [← e1] at h1
    have h2 := hd i σ hl m
    have h4 := hd2 i σ hl m
    have ht := tof2_l c (ks.map enc) (by rw [List.length_map]; omega) (enc q) m (σ.set i (VS a4 b4))
    clear hd p1 hd2
    (refine' Cal.fn2 rfl rfl ?_ rfl rfl rfl rfl (fun s v u => BindsTo.of_eq rfl) ?_ ?_ ?_ ?_ rfl rfl rfl; rotate_left; kernel_rfl; decide; decide)
    · (first | (ksl_open Exec.step; ksl_open After.asg; kqd_in; decide; exact fun _ _ => rfl) | (ksl_open Exec.step; ksl_open After.comp; kd_mem; rfl; (intro env h; cases env; cases h; rfl))); (ksl_open Exec.skip; kqd_all); (ksl_open Exec.skip; kqd_all); (ksl_open Exec.skip; kqd_all); (ksl_open Exec.skip; kqd_all); (ksl_open Exec.skip; kqd_all)
      refine Exec.step (After.comp (os := ks.map enc) (σ₁ := σ.set i (VS a2 b2)) (σ₂ := σ.set i (VS a3 b3)) (EvIt.range rfl (by kernel_rfl) (m := j) (by omega) rfl ?_) (CompG.one (C1.seqs (P := KindP c f) ?_ hs _ (by simp [hj])) rfl rfl (by simp; omega)) (by decide) rfl rfl (fun _ _ => rfl) (by decide) rfl ?_) ?_
      · kqd_in
      · intro d a b k a' b' p τ
        have hp := p.app i σ hl (m + 1) (by omega) τ
        rw [← e1] at hp
        kqd_in
      · intro env h; cases env; cases h; rfl
      · (ksl_open Exec.ret; kqd_in)
    · rw [enc_tup, encs_map]; rfl
  have t9 : PyData.eqv (.int w) (.int 10) = false := by simp [PyData.eqv, h9]
  refine ⟨.tup ks none, a3, b3, .tup (by omega) hks (fun r hr => nomatch hr), fun i σ hl n hn => ?_⟩
  obtain ⟨m, rfl⟩ := gt2 hn
  have h2 := hd i σ hl m
  have h4 := hd2 i σ hl m
  have ht := tof2_l c (ks.map enc) (by rw [List.length_map]; omega) .none m (σ.set i (VS a3 b3))
  clear hd hd2
  (refine' Cal.fn2 rfl rfl ?_ rfl rfl rfl rfl (fun s v u => BindsTo.of_eq rfl) ?_ ?_ ?_ ?_ rfl rfl rfl; rotate_left; kernel_rfl; decide; decide)
  · (first | (ksl_open Exec.step; ksl_open After.asg; kqd_in; decide; exact fun _ _ => rfl) | (ksl_open Exec.step; ksl_open After.comp; kd_mem; rfl; (intro env h; cases env; cases h; rfl))); (ksl_open Exec.skip; kqd_all); (ksl_open Exec.skip; kqd_all); (ksl_open Exec.skip; kqd_all); (ksl_open Exec.skip; kqd_all); (ksl_open Exec.skip; kqd_all)
    refine Exec.step (After.comp (os := ks.map enc) (σ₁ := σ.set i (VS a2 b2)) (σ₂ := σ.set i (VS a3 b3)) (EvIt.range rfl (by kernel_rfl) (m := j) (by omega) rfl ?_) (CompG.one (C1.seqs (P := KindP c f) ?_ hs _ (by simp [hj])) rfl rfl (by simp; omega)) (by decide) rfl rfl (fun _ _ => rfl) (by decide) rfl ?_) ?_
    · kqd_in
    · intro d a b k a' b' p τ
      have hp := p.app i σ hl (m + 1) (by omega) τ
      rw [← e1] at hp
      kqd_in
    · intro env h; cases env; cases h; rfl
    · (ksl_open Exec.ret; kqd_in)
  · rw [enc_tup, encs_map]; rfl
theorem kind_ok (c : Cx) : ∀ f : Nat, f ≤ 3 → ∀ a b, ∃ k a' b', KindP c f a b k a' b'
  | 0, _, a, b => kind_zero c a b
  | f + 1, h, a, b => kind_succ c f (by omega) (kind_ok c f (by omega)) a b
theorem no_false (ks : List K) : (!((ks.map fun _ => PyData.bool true).any fun y => PyData.eqv y (.bool false))) = true := by
  induction ks with
  | nil => rfl
  | cons k ks ih => rw [List.map_cons, List.any_cons]; simpa [PyData.eqv] using ih
theorem trues_depth (ks : List K) : PyData.depthAll (ks.map fun _ => PyData.bool true) = 0 := by
  induction ks with
  | nil => rfl
  | cons k ks ih => rw [List.map_cons, PyData.depthAll, ih]; rfl
theorem law_ok (c : Cx) (l : Addr) (vs : List Value) (ns : List Int) (hL : c.hb.IsList l vs.toArray) (hI : IntsAre vs ns) (n : Nat) (hn : 61 ≤ n) (σ : Sto) :
    ∃ σ', Cal c n (.ref 151) [.raw (.ref l)] σ (.val (.bool true)) σ' := by
  obtain ⟨m, rfl⟩ := gt1 hn
  have h1 : ∀ σ : Sto, Cal c m (.ref 83) [.raw (.ref l)] σ (.cell σ.length) ((σ ++ [VS (vialA ns) (vialB ns)]).set σ.length (VS (vialA ns) (vialB ns))) := by
    intro σ
    have := Cal.mono (n := m) (vial_ok c l vs ns hL hI 0 σ) (by omega)
    rw [show (σ ++ [VS (vialA ns) (vialB ns)]).set σ.length (VS (vialA ns) (vialB ns)) = σ ++ [[.int (vialA ns), .int (vialB ns)]] by simp]
    exact this
  have h2 := wr_ok c m (by omega)
  obtain ⟨ks, a', b', hk, hs⟩ := Seqs.ex (kind_ok c 3 (by decide)) 4 (vialA ns) (vialB ns)
  refine ⟨(σ ++ [VS (vialA ns) (vialB ns)]).set σ.length (VS a' b'), ?_⟩
  generalize hz : (σ ++ [VS (vialA ns) (vialB ns)]) = σz at *
  have hl : σ.length < σz.length := by rw [← hz]; simp
  have h1 := h1 σ
  rw [hz] at h1
  clear hz hL hI
  generalize vialA ns = a at h1 hs
  generalize vialB ns = b at h1 hs
  generalize σ.length = i at h1 hl
  (refine' Cal.fn1 rfl rfl ?_ rfl rfl rfl rfl (fun s v => BindsTo.of_eq rfl) ?_ ?_ ?_ ?_ rfl rfl rfl; rotate_left; kernel_rfl; decide; decide)
  · refine Exec.step (After.asg (σ₁ := σz.set i (VS a b)) (b := .cell i) ?_ (by decide) fun _ _ => rfl) ?_
    · kqd_in
    · (ksl_open Exec.skip; kqd_all)
      refine Exec.ret (b := .val (.bool true)) (Ev.cmp (σ₁ := σz.set i (VS a b)) (b₁ := .val (.bool false)) Ev.cbool (b₂ := .val (.list (ks.map fun _ => .bool true)))
        (Ev.comp (σ₁ := σz.set i (VS a b)) (σ₂ := σz.set i (VS a' b')) (EvIt.range (m := 4) rfl (by kernel_rfl) (by decide) rfl Ev.cint) (CompG.one (C1.seqs (P := KindP c 3) (g := fun _ => .bool true) ?_ hs _ (by simp [hk])) rfl rfl (by simp [hk])) (by decide) rfl rfl (fun _ _ => rfl) (by decide))
        rfl rfl (cmp_notIn_list (by rw [trues_depth]; exact Nat.le_trans (Nat.min_le_left _ _) (by decide)) (no_false ks)) rfl)
      intro d a b k a' b' p τ
      have hp : Cal c m (.ref 102) [.cell i, .val (.int 3)] (σz.set i (VS a b) ++ [τ]) (.val (enc k)) (σz.set i (VS a' b') ++ [τ]) := p.app i σz hl m (by omega) τ
      obtain ⟨s1, s2, s3⟩ := p.1.sizes3
      have hr := kr_ok c k s2 s1 s3 (fact1 k) (fact3 k (by omega)) m (by omega)
      kqd_in
  · rfl
theorem step_end {w : World} {s₀ s₁ s' : Shared} {W W' : List Addr} {args : List WData} (st : Step W W' s₁ s') (hW : W = []) (hg : s₁.gens = #[]) (hp : PySem.Challenge.rw_pc0187_01.row.claim.post args (.bool true) args = true) {cl : Str → Option Addr} {mean : ExcName → Option Value} :
    GoodWG PySem.Challenge.rw_pc0187_01.row.claim cl mean args s₁ (.ok (.ret (.bool true))) s' := by
  subst hW
  obtain ⟨h', tk, rfl⟩ := st.same
  exact ⟨.inl ⟨.bool true, .bool true, [], rfl, fun _ => rfl, .bool _, hp, fun h => ⟨.nil, fun a h => (nomatch h)⟩⟩, .of_keep fun b o e => st.keep b o (fun h => (nomatch h)) e, rfl, .of_eq hg⟩
end Mine
theorem PySem.Challenge.cw_pc0187_01_holds : PySem.Challenge.rw_pc0187_01.Holds :=
  Mine.hd (by 
  k_fill
  intro w s₀ s₁ mg mb G Y fa o pm cd doc dV kV ho hd hcd hD hmg hg args vals as hpre hlay hrd hwl hlo
  have KX := kIn_of Y
  refine Ground.open G ?_
  intro T B D TE TW
  wrow_args hpre hlay hrd hwl hlo
  rename_i ns _ _ _ _ _ _ _ l vs _ hL _ _ _ hI _ _ _
  have hfa : mg (Str.ofString "law") = some (.ref 151) := mg_of KX T.g rfl
  have hfb : mg (Str.ofString "law") = some (.ref fa) := hmg
  rw [hfa] at hfb
  cases hfb
  obtain ⟨σ', hc⟩ := Mine.law_ok { w := w, hb := s₁.heap, mg := mg, mb := mb, g := T.g, b := T.b, bt := T.builtins, nolimit := T.nolimit, X := KX } l vs ns hL hI 61 (by decide) []
  refine hc callerA s₁ [] [.ref l] _ _ ⟨rfl, by decide, by decide⟩ ⟨fun _ _ e => e, fun _ h => (nomatch h), .nil, rfl, fun _ _ h => (nomatch h)⟩ (.cons rfl .nil) fun v s' W' st S' rv => ?_
  cases rv
  exact Mine.step_end (w := w) (s₀ := s₀) st rfl hg (postW_of (by wrow_shape) (by wtm_val) (by str_meet; first | done | w_fin)))
