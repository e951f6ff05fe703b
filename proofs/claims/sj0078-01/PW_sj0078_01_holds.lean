import PyProof.Rows.All
import Wide.All
import OpenK.AllK
import Wide.FinOn
import PySem.Challenge.RW_sj0078_01
set_option Elab.async false
set_option maxRecDepth 100000
set_option maxHeartbeats 8000000
set_option linter.unusedVariables false
set_option compiler.extract_closed false
namespace Mine
open PySem PySem.W PySem.Calls PyProof.Rows
def view : Program := { PySem.Challenge.pw_sj0078_01 with main := { PySem.Challenge.pw_sj0078_01.main with body := (PySem.Challenge.pw_sj0078_01.main.body.zipIdx.filter fun x => !(x.2 == 0 || x.2 == 10 || x.2 == 16 || x.2 == 24)).map (·.1) } }
theorem hl : ∀ w : World, (openEnds treeTable PySem.Challenge.pw_sj0078_01 w 2716).map (fun s => (openSeen view [] (importedModules PySem.Challenge.pw_sj0078_01.main.body) (fun s => xlAt view [] s && recOk [] s) true s, ())) = some (openGood view [], ()) := by
  intro w
  kernel_rfl

/-! ## abstract values, abstract heap -/
inductive AV where
  | none
  | bool (b : Bool)
  | int (i : Int)
  | str (x : Str)
  | ref (a : Addr)
  | oth (v : Value)

noncomputable def er : Value → AV
  | .none => .none
  | .bool b => .bool b
  | .int i _ => .int i
  | .str x _ => .str x
  | .ref a => .ref a
  | v => .oth v

theorem er_int {v : Value} {i : Int} (h : er v = .int i) : ∃ t, v = .int i t := by
  cases v <;> simp [er] at h; subst h; exact ⟨_, rfl⟩
theorem er_ref {v : Value} {a : Addr} (h : er v = .ref a) : v = .ref a := by
  cases v <;> simp [er] at h; subst h; rfl
theorem er_bool {v : Value} {b : Bool} (h : er v = .bool b) : v = .bool b := by
  cases v <;> simp [er] at h; subst h; rfl
theorem er_str {v : Value} {x : Str} (h : er v = .str x) : ∃ t, v = .str x t := by
  cases v <;> simp [er] at h; subst h; exact ⟨_, rfl⟩
theorem er_none {v : Value} (h : er v = .none) : v = .none := by
  cases v <;> simp [er] at h; rfl
theorem er_oth {v u : Value} (h : er v = .oth u) : v = u := by
  cases v <;> simp [er] at h <;> exact h

inductive Cell where
  | list (xs : List AV)
  | tup (xs : List AV)

noncomputable abbrev AH := Addr → Option Cell
noncomputable abbrev VM := Str → Option AV

noncomputable def CellAt (h : Heap) (a : Addr) : Cell → Prop
  | .list xs => ∃ vs : List Value, h.PlainList a vs.toArray ∧ vs.map er = xs
  | .tup xs => ∃ vs : List Value, h.IsTuple a vs.toArray ∧ vs.map er = xs

noncomputable def HasH (H : AH) (h : Heap) : Prop := ∀ a c, H a = some c → CellAt h a c

theorem CellAt.at {h h' : Heap} {a : Addr} {c : Cell} (x : CellAt h a c) (e : ∀ o, h.get? a = some o → h'.get? a = some o) : CellAt h' a c := by
  cases c with
  | list xs => obtain ⟨vs, hp, hm⟩ := x; exact ⟨vs, hp.at e, hm⟩
  | tup xs => obtain ⟨vs, ⟨o, ho, r⟩, hm⟩ := x; exact ⟨vs, ⟨o, e _ ho, r⟩, hm⟩
theorem CellAt.seq {h : Heap} {a : Addr} {c : Cell} (x : CellAt h a c) : ∃ o vs n, h.get? a = some o ∧ o.data = .seq vs n := by
  cases c with
  | list xs => obtain ⟨vs, ⟨n, hp⟩, hm⟩ := x; exact ⟨_, _, n, hp, rfl⟩
  | tup xs => obtain ⟨vs, ⟨o, ho, hc, n, hd⟩, hm⟩ := x; exact ⟨o, _, n, ho, hd⟩

/-- the step from a state to a later one: objects outside of H (and of X) stay as they are -/
structure Tr (X : Addr → Prop) (H : AH) (s : Shared) (H' : AH) (s' : Shared) : Prop where
  same : ∃ h tk, s' = { s with heap := h, toks := tk }
  keep : ∀ b o, s.heap.get? b = some o → H b = none → ¬ X b → s'.heap.get? b = some o
  dom : ∀ b, H b = none → H' b ≠ none → s.heap.get? b = none
  alive : ∀ b, s'.heap.get? b = none → s.heap.get? b = none

noncomputable def NoX : Addr → Prop := fun _ => False

theorem Tr.refl {X : Addr → Prop} {H : AH} {s : Shared} : Tr X H s H s := ⟨⟨s.heap, s.toks, rfl⟩, fun _ _ e _ _ => e, fun _ h h' => (h' h).elim, fun _ e => e⟩
theorem Tr.trans {X : Addr → Prop} {H H' H'' : AH} {s s' s'' : Shared} (x : Tr X H s H' s') (y : Tr X H' s' H'' s'') : Tr X H s H'' s'' := by
  obtain ⟨⟨h, tk, rfl⟩, k1, d1, a1⟩ := x
  obtain ⟨⟨h2, tk2, rfl⟩, k2, d2, a2⟩ := y
  refine ⟨⟨h2, tk2, rfl⟩, fun b o e hH hX' => ?_, fun b hH hH'' => ?_, fun b e => a1 b (a2 b e)⟩
  · refine k2 b o (k1 b o e hH hX') ?_ hX'
    cases q : H' b with
    | none => rfl
    | some c => have := d1 b hH (by rw [q]; exact fun z => nomatch z); rw [this] at e; cases e
  · by_cases q : H' b = none
    · exact a1 b (d2 b q hH'')
    · exact d1 b hH q
theorem Tr.mono {X Y : Addr → Prop} {H H' : AH} {s s' : Shared} (x : Tr X H s H' s') (h : ∀ b, X b → Y b) : Tr Y H s H' s' :=
  ⟨x.same, fun b o e hH hY => x.keep b o e hH fun q => hY (h b q), x.dom, x.alive⟩
theorem Tr.toX {Y : Addr → Prop} {H H' : AH} {s s' : Shared} (x : Tr NoX H s H' s') : Tr Y H s H' s' := x.mono fun _ q => q.elim
/-- only tokens -/
theorem Tr.tok {X : Addr → Prop} {H : AH} {s : Shared} {t : Nat} : Tr X H s H { s with toks := t } := ⟨⟨_, _, rfl⟩, fun _ _ e _ _ => e, fun _ h h' => (h' h).elim, fun _ e => e⟩
theorem Tr.toks {X : Addr → Prop} {H H' : AH} {s s' : Shared} {t : Nat} (x : Tr X H s H' s') : Tr X H s H' { s' with toks := t } := x.trans Tr.tok
/-- things made, nothing changed: the heap grown -/
theorem Tr.grow {X : Addr → Prop} {H : AH} {s : Shared} {h : Heap} {t : Nat} (k : ∀ b o, s.heap.get? b = some o → h.get? b = some o) : Tr X H s H { s with heap := h, toks := t } :=
  ⟨⟨_, _, rfl⟩, fun b o e _ _ => k b o e, fun _ h h' => (h' h).elim, fun b e => by
    cases q : s.heap.get? b with
    | none => rfl
    | some o => have e' : h.get? b = none := e; rw [k b o q] at e'; cases e'⟩

noncomputable def AH.set (H : AH) (a : Addr) (c : Cell) : AH := fun b => if b = a then some c else H b
theorem AH.set_self {H : AH} {a : Addr} {c : Cell} : H.set a c a = some c := if_pos rfl
theorem AH.set_ne {H : AH} {a b : Addr} {c : Cell} (h : b ≠ a) : H.set a c b = H b := if_neg h

/-- a new cell -/
theorem Tr.make {X : Addr → Prop} {H : AH} {s : Shared} {h : Heap} {t : Nat} {a : Addr} {c : Cell} (k : ∀ b o, s.heap.get? b = some o → h.get? b = some o) (hn : s.heap.get? a = none) :
    Tr X H s (H.set a c) { s with heap := h, toks := t } :=
  ⟨⟨_, _, rfl⟩, fun b o e _ _ => k b o e, fun b hb hb' => by
    by_cases q : b = a
    · rw [q]; exact hn
    · rw [AH.set_ne q] at hb'; exact (hb' hb).elim, (Tr.grow (X := X) (H := H) (t := t) k).alive⟩
/-- a cell changed -/
theorem Tr.write {X : Addr → Prop} {H : AH} {s : Shared} {h : Heap} {t : Nat} {a : Addr} {c c' : Cell} (k : Heap.SameBut a s.heap h) (hc : H a = some c) (hn : (h.get? a).isSome) :
    Tr X H s (H.set a c') { s with heap := h, toks := t } :=
  ⟨⟨_, _, rfl⟩, fun b o e hb _ => by
    by_cases q : b = a
    · rw [q, hc] at hb; cases hb
    · exact (k.2 b q).trans e, fun b hb hb' => by
    by_cases q : b = a
    · rw [q, hc] at hb; cases hb
    · rw [AH.set_ne q] at hb'; exact (hb' hb).elim, fun b e => by
    by_cases q : b = a
    · have e' : h.get? b = none := e
      rw [q] at e'; rw [e'] at hn; cases hn
    · exact (k.2 b q).symm.trans e⟩

theorem HasH.keep {H : AH} {h h' : Heap} (x : HasH H h) (k : ∀ b o, h.get? b = some o → h'.get? b = some o) : HasH H h' := fun a c e => (x a c e).at fun o => k a o
theorem HasH.set {H : AH} {h h' : Heap} {a : Addr} {c : Cell} (x : HasH H h) (k : ∀ b o, b ≠ a → h.get? b = some o → h'.get? b = some o) (hc : CellAt h' a c) : HasH (H.set a c) h' := fun b d e => by
  by_cases q : b = a
  · rw [q, AH.set_self] at e; cases e; exact q ▸ hc
  · rw [AH.set_ne q] at e; exact (x b d e).at fun o => k b o q
theorem HasH.some_of {H : AH} {h : Heap} (x : HasH H h) {a : Addr} {c : Cell} (e : H a = some c) : ∃ o vs n, h.get? a = some o ∧ o.data = .seq vs n := (x a c e).seq
theorem HasH.none_new {H : AH} {h : Heap} (x : HasH H h) {a : Addr} (e : h.get? a = none) : H a = none := by
  cases q : H a with
  | none => rfl
  | some c => obtain ⟨o, _, _, ho, _⟩ := x.some_of q; rw [e] at ho; cases ho

/-! ## the law's fixed surroundings -/
structure Cx where
  prog : Program
  w : World
  hb : Heap
  mg : Str → Option Value
  mb : Str → Option Value
  g : hb.Ns mainGlobals mg
  b : hb.Ns builtinsNs mb
  noLimit : hb.NoLimit
  builtins : ∀ x : Str, x ≠ "__name__" → mb x = bootBuiltins x
  digits : ∃ mc, hb.Ns cStatics mc ∧ mc "sys.int_max_str_digits" = none

noncomputable abbrev Cx.M (C : Cx) : Model := model C.prog C.w

/-- the room around: k more calls may be nested -/
structure Room (k : Nat) (A : Around) : Prop where
  handled : A.handled = none
  depth : A.depth + k ≤ 900
  units : A.units + 10 * k ≤ 5000
  guards : A.guards = some []

theorem Room.deeper {k : Nat} {A : Around} (x : Room (k + 1) A) (env : Env) : Room k (A.deeper env) :=
  ⟨x.handled, by have := x.depth; show A.depth + 1 + k ≤ 900; (first | lia | omega), by have := x.units; show A.units + 3 + 10 * k ≤ 5000; (first | lia | omega), x.guards⟩
theorem Room.less {k j : Nat} {A : Around} (x : Room k A) (h : j ≤ k) : Room j A := ⟨x.handled, by have := x.depth; (first | lia | omega), by have := x.units; (first | lia | omega), x.guards⟩

/-- the world's state: what stood stands, the abstract heap is there -/
structure Wd (C : Cx) (H : AH) (s : Shared) : Prop where
  keep : ∀ b o, C.hb.get? b = some o → s.heap.get? b = some o
  has : HasH H s.heap
  new : ∀ a, H a ≠ none → C.hb.get? a = none

theorem Wd.tr {C : Cx} {X : Addr → Prop} {H H' : AH} {s s' : Shared} (x : Wd C H s) (hX : ∀ b, X b → C.hb.get? b = none) (h : HasH H' s'.heap) (t : Tr X H s H' s') : Wd C H' s' where
  keep := fun b o e => t.keep b o (x.keep b o e) (by
    cases q : H b with
    | none => rfl
    | some c => have := x.new b (by rw [q]; exact fun z => nomatch z); rw [this] at e; cases e) fun q => by rw [hX b q] at e; cases e
  has := h
  new := fun a ha => by
    by_cases q : H a = none
    · have := t.dom a q ha
      cases e : C.hb.get? a with
      | none => rfl
      | some o => rw [x.keep a o e] at this; cases this
    · exact x.new a q
theorem Wd.trE {C : Cx} {H H' : AH} {s s' : Shared} (x : Wd C H s) (h : HasH H' s'.heap) (t : Tr NoX H s H' s') : Wd C H' s' := x.tr (fun _ q => q.elim) h t
theorem Wd.tok {C : Cx} {H : AH} {s : Shared} {t : Nat} (x : Wd C H s) : Wd C H { s with toks := t } := ⟨x.keep, x.has, x.new⟩

/-- a frame -/
structure EnvOk (C : Cx) (env : Env) : Prop where
  kind : env.scope.kind = .function
  glob : env.globals = mainGlobals
  blt : env.builtins = builtinsNs
  locNew : C.hb.get? env.locals = none
  cellNew : ∀ n c, env.cells.lookup n = some c → C.hb.get? c = none
  apart : env.cells.Pairwise fun x y => x.2 ≠ y.2
  locCell : ∀ n c, env.cells.lookup n = some c → c ≠ env.locals
  cellHas : ∀ n, env.kindOf n = some .cell → ∃ c, env.cells.lookup n = some c

noncomputable def FrX (env : Env) (b : Addr) : Prop := b = env.locals ∨ ∃ n, env.cells.lookup n = some b
theorem EnvOk.new {C : Cx} {env : Env} (x : EnvOk C env) : ∀ b, FrX env b → C.hb.get? b = none := fun b h => by
  rcases h with rfl | ⟨n, h⟩
  · exact x.locNew
  · exact x.cellNew n b h

structure Vars (env : Env) (V : VM) (h : Heap) : Prop where
  loc : ∃ m, h.Ns env.locals m ∧ ∀ x, env.kindOf x = some .local → (m x).map er = V x
  cell : ∀ x c, env.cells.lookup x = some c → ∃ v, h.IsCell c v ∧ (env.kindOf x = some .cell → v.map er = V x)

theorem HasH.not_ns {H : AH} {h : Heap} (x : HasH H h) {a : Addr} {m : Str → Option Value} (n : h.Ns a m) : H a = none := by
  cases q : H a with
  | none => rfl
  | some c =>
    obtain ⟨o, vs, n', ho, hd⟩ := x.some_of q
    obtain ⟨o', es, ep, ho', hd', _⟩ := n
    rw [ho] at ho'; cases ho'; rw [hd] at hd'; cases hd'
theorem HasH.not_cell {H : AH} {h : Heap} (x : HasH H h) {a : Addr} {v : Option Value} (n : h.IsCell a v) : H a = none := by
  cases q : H a with
  | none => rfl
  | some c =>
    obtain ⟨o, vs, n', ho, hd⟩ := x.some_of q
    obtain ⟨o', ho', hd'⟩ := n
    rw [ho] at ho'; cases ho'; rw [hd] at hd'; cases hd'

theorem Vars.keepX {env : Env} {V : VM} {H H' : AH} {s s' : Shared} {X : Addr → Prop} (x : Vars env V s.heap) (h : HasH H s.heap) (t : Tr X H s H' s') (hl : ¬ X env.locals)
    (hc : ∀ n c, env.cells.lookup n = some c → ¬ X c) : Vars env V s'.heap := by
  obtain ⟨⟨m, hn, hm⟩, hcell⟩ := x
  refine ⟨⟨m, ?_, hm⟩, fun y c e => ?_⟩
  · have q := h.not_ns hn
    obtain ⟨o, es, ep, ho, r⟩ := hn
    exact ⟨o, es, ep, t.keep _ _ ho q hl, r⟩
  · obtain ⟨v, hv, e'⟩ := hcell y c e
    have q := h.not_cell hv
    obtain ⟨o, ho, hd⟩ := hv
    exact ⟨v, ⟨o, t.keep _ _ ho q (hc y c e), hd⟩, e'⟩
theorem Vars.tr {env : Env} {V : VM} {H H' : AH} {s s' : Shared} (x : Vars env V s.heap) (h : HasH H s.heap) (t : Tr NoX H s H' s') : Vars env V s'.heap :=
  x.keepX h t (fun q => q) fun _ _ _ q => q

structure Ok (C : Cx) (env : Env) (V : VM) (H : AH) (s : Shared) : Prop where
  eo : EnvOk C env
  vars : Vars env V s.heap
  wd : Wd C H s

theorem Ok.tr {C : Cx} {env : Env} {V : VM} {H H' : AH} {s s' : Shared} (x : Ok C env V H s) (h : HasH H' s'.heap) (t : Tr NoX H s H' s') : Ok C env V H' s' :=
  ⟨x.eo, x.vars.tr x.wd.has t, x.wd.trE h t⟩

/-! ## judgements -/
/-- a tree that gives a value, from an abstract heap -/
noncomputable def OJ (C : Cx) (A : Around) (H : AH) (t : Sem Value) (Q : AV → AH → Prop) : Prop :=
  ∀ s, Wd C H s → wpAny C.M A t (fun v s' => ∃ H', Q (er v) H' ∧ HasH H' s'.heap ∧ Tr NoX H s H' s') (fun _ _ => False) s
/-- an expression -/
noncomputable def EJ (C : Cx) (A : Around) (env : Env) (V : VM) (H : AH) (e : Expr) (Q : AV → AH → Prop) : Prop :=
  ∀ s, Ok C env V H s → wpAny C.M A (eval e env) (fun v s' => ∃ H', Q (er v) H' ∧ HasH H' s'.heap ∧ Tr NoX H s H' s') (fun _ _ => False) s
/-- a test -/
noncomputable def TJ (C : Cx) (A : Around) (env : Env) (V : VM) (H : AH) (e : Expr) (Q : Bool → AH → Prop) : Prop :=
  ∀ s, Ok C env V H s → wpAny C.M A (isTrue e env (eval e env)) (fun b s' => ∃ H', Q b H' ∧ HasH H' s'.heap ∧ Tr NoX H s H' s') (fun _ _ => False) s
/-- expressions, one behind the other (arguments, items) -/
noncomputable def LJ (C : Cx) (A : Around) (env : Env) (V : VM) (H : AH) (pos : Pos) (es : List Expr) (Q : List AV → AH → Prop) : Prop :=
  ∀ s, Ok C env V H s → wpAny C.M A (spliced (backTo pos (starEach es env))) (fun vs s' => ∃ H', Q (vs.map er) H' ∧ HasH H' s'.heap ∧ Tr NoX H s H' s') (fun _ _ => False) s
inductive AF where
  | next | brk | cont
  | ret (v : AV)
noncomputable def erF : Flow → AF
  | .next => .next
  | .brk => .brk
  | .cont => .cont
  | .ret v => .ret (er v)
/-- statements -/
noncomputable def SJ (C : Cx) (A : Around) (env : Env) (V : VM) (H : AH) (ss : List Stmt) (Q : AF → VM → AH → Prop) : Prop :=
  ∀ s, Ok C env V H s → wpAny C.M A (execs ss env) (fun f s' => ∃ V' H', Q (erF f) V' H' ∧ Vars env V' s'.heap ∧ HasH H' s'.heap ∧ Tr (FrX env) H s H' s') (fun _ _ => False) s
/-- a statement -/
noncomputable def XJ (C : Cx) (A : Around) (env : Env) (V : VM) (H : AH) (st : Stmt) (Q : AF → VM → AH → Prop) : Prop :=
  ∀ s, Ok C env V H s → wpAny C.M A (exec st env) (fun f s' => ∃ V' H', Q (erF f) V' H' ∧ Vars env V' s'.heap ∧ HasH H' s'.heap ∧ Tr (FrX env) H s H' s') (fun _ _ => False) s

theorem Ok.trS {C : Cx} {env : Env} {V V' : VM} {H H' : AH} {s s' : Shared} (x : Ok C env V H s) (v : Vars env V' s'.heap) (h : HasH H' s'.heap) (t : Tr (FrX env) H s H' s') : Ok C env V' H' s' :=
  ⟨x.eo, v, x.wd.tr x.eo.new h t⟩

theorem OJ.mono {C : Cx} {A : Around} {H : AH} {t : Sem Value} {Q Q' : AV → AH → Prop} (x : OJ C A H t Q) (h : ∀ v H', Q v H' → Q' v H') : OJ C A H t Q' := fun s o =>
  wpAny_mono (x s o) (fun _ _ ⟨H', q, r⟩ => ⟨H', h _ _ q, r⟩) fun _ _ e => e
theorem EJ.mono {C : Cx} {A : Around} {env : Env} {V : VM} {H : AH} {e : Expr} {Q Q' : AV → AH → Prop} (x : EJ C A env V H e Q) (h : ∀ v H', Q v H' → Q' v H') : EJ C A env V H e Q' := fun s o =>
  wpAny_mono (x s o) (fun _ _ ⟨H', q, r⟩ => ⟨H', h _ _ q, r⟩) fun _ _ e => e
theorem SJ.mono {C : Cx} {A : Around} {env : Env} {V : VM} {H : AH} {e : List Stmt} {Q Q' : AF → VM → AH → Prop} (x : SJ C A env V H e Q) (h : ∀ v V' H', Q v V' H' → Q' v V' H') : SJ C A env V H e Q' := fun s o =>
  wpAny_mono (x s o) (fun _ _ ⟨V', H', q, r⟩ => ⟨V', H', h _ _ _ q, r⟩) fun _ _ e => e

/-- from one expression to the next step: the tree behind starts at the state reached -/
theorem OJ.run {C : Cx} {A : Around} {H₀ H : AH} {s₀ s : Shared} {t : Sem Value} {Q : AV → AH → Prop} (x : OJ C A H t Q) (o : Wd C H s) (t₀ : Tr NoX H₀ s₀ H s) :
    wpAny C.M A t (fun v s' => ∃ H', Q (er v) H' ∧ HasH H' s'.heap ∧ Tr NoX H₀ s₀ H' s') (fun _ _ => False) s :=
  wpAny_mono (x s o) (fun _ _ ⟨H', q, h, t'⟩ => ⟨H', q, h, t₀.trans t'⟩) fun _ _ e => e
theorem EJ.run {C : Cx} {A : Around} {env : Env} {V : VM} {H₀ H : AH} {s₀ s : Shared} {e : Expr} {Q : AV → AH → Prop} (x : EJ C A env V H e Q) (o : Ok C env V H s) (t₀ : Tr NoX H₀ s₀ H s) :
    wpAny C.M A (eval e env) (fun v s' => ∃ H', Q (er v) H' ∧ HasH H' s'.heap ∧ Tr NoX H₀ s₀ H' s') (fun _ _ => False) s :=
  wpAny_mono (x s o) (fun _ _ ⟨H', q, h, t'⟩ => ⟨H', q, h, t₀.trans t'⟩) fun _ _ e => e

section
variable {C : Cx} {A : Around} {env : Env} {V : VM} {H : AH} {Q : AV → AH → Prop}

/-- an operation upon two values -/
noncomputable def BO (C : Cx) (A : Around) (H : AH) (f : Value → Value → Sem Value) (a b : AV) (Q : AV → AH → Prop) : Prop := ∀ va vb, er va = a → er vb = b → OJ C A H (f va vb) Q
noncomputable def UO (C : Cx) (A : Around) (H : AH) (f : Value → Sem Value) (a : AV) (Q : AV → AH → Prop) : Prop := ∀ va, er va = a → OJ C A H (f va) Q

theorem EJ.int {i : Int} {k : Nat} {pos : Pos} (h : Q (.int i) H) : EJ C A env V H (.Constant (.int i) k pos) Q := fun _ o =>
  wpAny_Constant_int ⟨H, h, o.wd.has, Tr.tok⟩
theorem EJ.str {x : Str} {k : Nat} {pos : Pos} (h : Q (.str x) H) : EJ C A env V H (.Constant (.str x) k pos) Q := fun _ o =>
  wpAny_Constant_str ⟨H, h, o.wd.has, Tr.tok⟩
theorem EJ.bool {b : Bool} {k : Nat} {pos : Pos} (h : Q (.bool b) H) : EJ C A env V H (.Constant (.bool b) k pos) Q := fun _ o =>
  wpAny_Constant_bool ⟨H, h, o.wd.has, Tr.refl⟩

theorem EJ.binop {l r : Expr} {op : Operator} {pos : Pos} (h : EJ C A env V H l fun a H₁ => EJ C A env V H₁ r fun b H₂ => BO C A H₂ (binaryOp op) a b Q) :
    EJ C A env V H (.BinOp l op r pos) Q := fun s o => wpAny_BinOp (wpAny_mono (h s o) (fun _ s₁ ⟨_, q, h₁, t₁⟩ =>
  wpAny_mono (q s₁ (o.tr h₁ t₁)) (fun _ s₂ ⟨_, q₂, h₂, t₂⟩ => (q₂ _ _ rfl rfl).run ((o.tr h₁ t₁).tr h₂ t₂).wd (t₁.trans t₂)) fun _ _ e => e) fun _ _ e => e)
theorem EJ.cmp {l r : Expr} {op : CmpOp} {pos : Pos} (h : EJ C A env V H l fun a H₁ => EJ C A env V H₁ r fun b H₂ => BO C A H₂ (compareOp op) a b Q) (hm : behindInMarks op r = false) :
    EJ C A env V H (.Compare l [op] [r] pos) Q := fun s o => wpAny_Compare1 (wpAny_mono (h s o) (fun _ s₁ ⟨_, q, h₁, t₁⟩ =>
  wpAny_mono (q s₁ (o.tr h₁ t₁)) (fun _ s₂ ⟨_, q₂, h₂, t₂⟩ => (q₂ _ _ rfl rfl).run ((o.tr h₁ t₁).tr h₂ t₂).wd (t₁.trans t₂)) fun _ _ e => e) fun _ _ e => e) hm
theorem EJ.unop {x : Expr} {op : UnaryOp} {pos : Pos} (h : EJ C A env V H x fun a H₁ => UO C A H₁ (unaryOp op) a Q) :
    EJ C A env V H (.UnaryOp op x pos) Q := fun s o => wpAny_UnaryOp (wpAny_mono (h s o) (fun _ _ ⟨_, q, h₁, t₁⟩ => (q _ rfl).run (o.tr h₁ t₁).wd t₁) fun _ _ e => e)
theorem EJ.ifexp {test body orelse : Expr} {pos : Pos} (h : TJ C A env V H test fun b H₁ => if b then EJ C A env V H₁ body Q else EJ C A env V H₁ orelse Q) :
    EJ C A env V H (.IfExp test body orelse pos) Q := fun s o => wpAny_IfExp (wpAny_mono (h s o) (fun b _ ⟨_, q, h₁, t₁⟩ => by
  cases b
  · exact EJ.run q (o.tr h₁ t₁) t₁
  · exact EJ.run q (o.tr h₁ t₁) t₁) fun _ _ e => e)
end


section
variable {C : Cx} {A : Around} {H : AH} {Q : AV → AH → Prop} {a b : Int}

theorem BO.intro2 {f : Value → Value → Sem Value} {a b : Int} (h : ∀ s t u, Wd C H s → wpAny C.M A (f (.int a t) (.int b u)) (fun v s' => ∃ H', Q (er v) H' ∧ HasH H' s'.heap ∧ Tr NoX H s H' s') (fun _ _ => False) s) :
    BO C A H f (.int a) (.int b) Q := fun va vb ha hb s o => by
  obtain ⟨t, rfl⟩ := er_int ha
  obtain ⟨u, rfl⟩ := er_int hb
  exact h s t u o
theorem BO.fin {v : AV} {s : Shared} (q : Q v H) (o : Wd C H s) {u : Value} (e : er u = v) {t : Nat} :
    ∃ H', Q (er u) H' ∧ HasH H' ({ s with toks := t } : Shared).heap ∧ Tr NoX H s H' { s with toks := t } := ⟨H, e ▸ q, o.has, Tr.tok⟩

theorem BO.add (q : Q (.int (a + b)) H) : BO C A H (binaryOp .Add) (.int a) (.int b) Q := BO.intro2 fun s t u o => add_int (BO.fin q o rfl)
theorem BO.sub (q : Q (.int (a - b)) H) : BO C A H (binaryOp .Sub) (.int a) (.int b) Q := BO.intro2 fun s t u o => sub_int (BO.fin q o rfl)
theorem BO.mul (hm : IntMulOk a b) (q : Q (.int (a * b)) H) : BO C A H (binaryOp .Mult) (.int a) (.int b) Q := BO.intro2 fun s t u o => mul_int (BO.fin q o rfl) hm
theorem BO.div (hb : b ≠ 0) (hs : b.natAbs < 1073741824) (q : Q (.int (a.fdiv b)) H) : BO C A H (binaryOp .FloorDiv) (.int a) (.int b) Q :=
  BO.intro2 fun s t u o => floordiv_int hb (BO.fin q o rfl) (.inl (PyProof.noPylong_small hs))
theorem BO.mod (hb : b ≠ 0) (q : Q (.int (a.fmod b)) H) : BO C A H (binaryOp .Mod) (.int a) (.int b) Q := BO.intro2 fun s t u o => mod_int' hb (BO.fin q o rfl)
theorem BO.shl (hb : 0 ≤ b) (hs : (Builtin.Int.intBits a : Int) + b ≤ 2 ^ 27) (q : Q (.int (a * 2 ^ b.toNat)) H) : BO C A H (binaryOp .LShift) (.int a) (.int b) Q :=
  BO.intro2 fun s t u o => lshift_int hb hs (BO.fin q o rfl)
theorem BO.shr (hb : 0 ≤ b) (q : Q (.int (a.fdiv (2 ^ b.toNat))) H) : BO C A H (binaryOp .RShift) (.int a) (.int b) Q := BO.intro2 fun s t u o => rshift_int hb (BO.fin q o rfl)
theorem BO.and (q : Q (.int (Builtin.bitAnd a b)) H) : BO C A H (binaryOp .BitAnd) (.int a) (.int b) Q := BO.intro2 fun s t u o => and_int (BO.fin q o rfl)
theorem BO.or (q : Q (.int (Builtin.bitOr a b)) H) : BO C A H (binaryOp .BitOr) (.int a) (.int b) Q := BO.intro2 fun s t u o => or_int (BO.fin q o rfl)
theorem BO.pow (hb : 0 ≤ b) (hs : (Builtin.Int.intBits a : Int) * b ≤ 2 ^ 27) (q : Q (.int (a ^ b.toNat)) H) : BO C A H (binaryOp .Pow) (.int a) (.int b) Q :=
  BO.intro2 fun s t u o => pow_int hb hs (BO.fin q o rfl)
theorem BO.iadd (q : Q (.int (a + b)) H) : BO C A H (inplaceOp .Add) (.int a) (.int b) Q := BO.intro2 fun s t u o => iadd_int (BO.fin q o rfl)
theorem BO.isub (q : Q (.int (a - b)) H) : BO C A H (inplaceOp .Sub) (.int a) (.int b) Q := BO.intro2 fun s t u o => isub_int (BO.fin q o rfl)
theorem BO.imod (hb : b ≠ 0) (q : Q (.int (a.fmod b)) H) : BO C A H (inplaceOp .Mod) (.int a) (.int b) Q := BO.intro2 fun s t u o => imod_int hb (BO.fin q o rfl)
theorem BO.ishr (hb : 0 ≤ b) (q : Q (.int (a.fdiv (2 ^ b.toNat))) H) : BO C A H (inplaceOp .RShift) (.int a) (.int b) Q := BO.intro2 fun s t u o => irshift_int hb (BO.fin q o rfl)
theorem BO.ior (q : Q (.int (Builtin.bitOr a b)) H) : BO C A H (inplaceOp .BitOr) (.int a) (.int b) Q := BO.intro2 fun s t u o => ior_int (BO.fin q o rfl)

theorem BO.fin0 {v : AV} {s : Shared} (q : Q v H) (o : Wd C H s) {u : Value} (e : er u = v) :
    ∃ H', Q (er u) H' ∧ HasH H' s.heap ∧ Tr NoX H s H' s := ⟨H, e ▸ q, o.has, Tr.refl⟩
theorem BO.eq (q : Q (.bool (a == b)) H) : BO C A H (compareOp .Eq) (.int a) (.int b) Q := BO.intro2 fun s t u o => eq_int (BO.fin0 q o rfl)
theorem BO.ne (q : Q (.bool (a != b)) H) : BO C A H (compareOp .NotEq) (.int a) (.int b) Q := BO.intro2 fun s t u o => ne_int (BO.fin0 q o rfl)
theorem BO.lt (q : Q (.bool (decide (a < b))) H) : BO C A H (compareOp .Lt) (.int a) (.int b) Q := BO.intro2 fun s t u o => lt_int (BO.fin0 q o rfl)
theorem BO.le (q : Q (.bool (decide (a ≤ b))) H) : BO C A H (compareOp .LtE) (.int a) (.int b) Q := BO.intro2 fun s t u o => le_int (BO.fin0 q o rfl)
theorem BO.gt (q : Q (.bool (decide (b < a))) H) : BO C A H (compareOp .Gt) (.int a) (.int b) Q := BO.intro2 fun s t u o => gt_int (BO.fin0 q o rfl)
theorem BO.ge (q : Q (.bool (decide (b ≤ a))) H) : BO C A H (compareOp .GtE) (.int a) (.int b) Q := BO.intro2 fun s t u o => ge_int (BO.fin0 q o rfl)
theorem UO.neg (q : Q (.int (-a)) H) : UO C A H (unaryOp .USub) (.int a) Q := fun va ha s o => by
  obtain ⟨t, rfl⟩ := er_int ha
  exact neg_int (BO.fin q o rfl)
theorem UO.not_bool {x : Bool} (q : Q (.bool (!x)) H) : UO C A H (unaryOp .Not) (.bool x) Q := fun va ha s o => by
  obtain rfl := er_bool ha
  exact not_value (wpAny_truthy_bool (BO.fin0 q o rfl))
end

/-! ## names -/
noncomputable def kindB (env : Env) (x : Str) : Bool := env.kindOf x == some .local || env.kindOf x == some .cell
section
variable {C : Cx} {A : Around} {env : Env} {V : VM} {H : AH} {Q : AV → AH → Prop}

theorem EJ.var {x : Str} {pos : Pos} {v : AV} (hv : V x = some v) (h : Q v H) (hk : kindB env x = true) (hd : (x == ("__debug__" : Str)) = false) : EJ C A env V H (.Name x pos) Q := fun s o => by
  rcases Bool.or_eq_true_iff.mp hk with hl | hl
  · have hl := beq_iff_eq.mp hl
    obtain ⟨m, hn, hm⟩ := o.vars.loc
    have e := hm x hl
    rw [hv] at e
    obtain ⟨u, hu, rfl⟩ := Option.map_eq_some_iff.mp e
    exact wpAny_Name (wpAny_loadName_local o.eo.kind hl hn hu ⟨H, h, o.wd.has, Tr.refl⟩) hd
  · have hl := beq_iff_eq.mp hl
    obtain ⟨c, hc⟩ := o.eo.cellHas x hl
    obtain ⟨w, hw, e⟩ := o.vars.cell x c hc
    have e := e hl
    rw [hv] at e
    obtain ⟨u, hu, rfl⟩ := Option.map_eq_some_iff.mp e
    exact wpAny_Name (wpAny_loadName_cell o.eo.kind hl hc (hu ▸ hw) ⟨H, h, o.wd.has, Tr.refl⟩) hd

/-- a global of the text -/
theorem EJ.glob {x : Str} {pos : Pos} {v : Value} (hv : C.mg x = some v) (h : Q (er v) H) (hk : env.kindOf x = some .globalImplicit) (hd : (x == ("__debug__" : Str)) = false) :
    EJ C A env V H (.Name x pos) Q := fun s o =>
  Name_function_global o.eo.kind hk (loadGlobal_global (by rw [o.eo.glob]; exact C.g.keeps o.wd.keep) hv ⟨H, h, o.wd.has, Tr.refl⟩) hd
/-- a built-in -/
theorem EJ.boot {x : Str} {pos : Pos} {v : Value} (hm : C.mg x = none) (hv : bootBuiltins x = some v) (h : Q (er v) H) (hk : env.kindOf x = some .globalImplicit)
    (hn : x ≠ "__name__") (hd : (x == ("__debug__" : Str)) = false) : EJ C A env V H (.Name x pos) Q := fun s o =>
  Name_function_global o.eo.kind hk (loadGlobal_builtin (by rw [o.eo.glob]; exact C.g.keeps o.wd.keep) hm (by rw [o.eo.blt]; exact C.b.keeps o.wd.keep) ((C.builtins x hn).trans hv) ⟨H, h, o.wd.has, Tr.refl⟩) hd

/-! ## truth -/
theorem TJ.cmp {l r : Expr} {op : CmpOp} {pos : Pos} {Q : Bool → AH → Prop} (h : EJ C A env V H l fun a H₁ => EJ C A env V H₁ r fun b H₂ => BO C A H₂ (compareOp op) a b fun v H₃ => ∃ x, v = .bool x ∧ Q x H₃)
    (hm : behindInMarks op r = false) : TJ C A env V H (.Compare l [op] [r] pos) Q := fun s o => wpAny_isTrue_Compare1 (wpAny_mono (h s o) (fun _ s₁ ⟨_, q, h₁, t₁⟩ =>
  wpAny_mono (q s₁ (o.tr h₁ t₁)) (fun _ s₂ ⟨_, q₂, h₂, t₂⟩ => wpAny_mono ((q₂ _ _ rfl rfl).run ((o.tr h₁ t₁).tr h₂ t₂).wd (t₁.trans t₂)) (fun v s₃ ⟨_, ⟨x, e, q₃⟩, h₃, t₃⟩ => by
    rw [er_bool e]; exact wpAny_truthy_bool ⟨_, q₃, h₃, t₃⟩) fun _ _ e => e) fun _ _ e => e) fun _ _ e => e) hm
theorem TJ.not {x : Expr} {pos : Pos} {Q : Bool → AH → Prop} (h : TJ C A env V H x fun b H₁ => Q (!b) H₁) : TJ C A env V H (.UnaryOp .Not x pos) Q := fun s o => wpAny_isTrue_Not (h s o)
theorem TJ.and2 {x y : Expr} {pos : Pos} {Q : Bool → AH → Prop} (h : TJ C A env V H x fun b H₁ => if b then TJ C A env V H₁ y Q else Q false H₁) : TJ C A env V H (.BoolOp .And [x, y] pos) Q := fun s o =>
  wpAny_isTrue_BoolOp (wpAny_allTrue_And_cons (wpAny_mono (h s o) (fun b s₁ ⟨H₁, q, h₁, t₁⟩ => by
    cases b
    · exact ⟨H₁, q, h₁, t₁⟩
    · refine wpAny_allTrue_And_cons (wpAny_mono (q s₁ (o.tr h₁ t₁)) (fun b s₂ ⟨H₂, q, h₂, t₂⟩ => ?_) fun _ _ e => e)
      cases b
      · exact ⟨H₂, q, h₂, t₁.trans t₂⟩
      · exact wpAny_allTrue_And_nil ⟨H₂, q, h₂, t₁.trans t₂⟩) fun _ _ e => e))
theorem TJ.or2 {x y : Expr} {pos : Pos} {Q : Bool → AH → Prop} (h : TJ C A env V H x fun b H₁ => if b then Q true H₁ else TJ C A env V H₁ y Q) : TJ C A env V H (.BoolOp .Or [x, y] pos) Q := fun s o =>
  wpAny_isTrue_BoolOp (wpAny_allTrue_Or_cons (wpAny_mono (h s o) (fun b s₁ ⟨H₁, q, h₁, t₁⟩ => by
    cases b
    · refine wpAny_allTrue_Or_cons (wpAny_mono (q s₁ (o.tr h₁ t₁)) (fun b s₂ ⟨H₂, q, h₂, t₂⟩ => ?_) fun _ _ e => e)
      cases b
      · exact wpAny_allTrue_Or_nil ⟨H₂, q, h₂, t₁.trans t₂⟩
      · exact ⟨H₂, q, h₂, t₁.trans t₂⟩
    · exact ⟨H₁, q, h₁, t₁⟩) fun _ _ e => e))
end


section
variable {C : Cx} {A : Around} {env : Env} {V : VM} {H : AH} {Q : AV → AH → Prop}

theorem LJ.nil {pos : Pos} {Q : List AV → AH → Prop} (h : Q [] H) : LJ C A env V H pos [] Q := fun s o => wpAny_items_nil ⟨H, h, o.wd.has, Tr.refl⟩
theorem LJ.cons {pos : Pos} {e : Expr} {rest : List Expr} {Q : List AV → AH → Prop} (h : EJ C A env V H e fun v H₁ => LJ C A env V H₁ pos rest fun vs H₂ => Q (v :: vs) H₂)
    (he : starEach (e :: rest) env = (false, eval e env) :: starEach rest env) : LJ C A env V H pos (e :: rest) Q := fun s o =>
  wpAny_items_cons (wpAny_mono (h s o) (fun v s₁ ⟨_, q, h₁, t₁⟩ => wpAny_mono (q s₁ (o.tr h₁ t₁)) (fun vs s₂ ⟨H₂, q₂, h₂, t₂⟩ => ⟨H₂, q₂, h₂, t₁.trans t₂⟩) fun _ _ e => e) fun _ _ e => e) he

theorem Heap.fresh (h : Heap) : h.get? h.objs.size = none := by
  cases q : h.get? h.objs.size with
  | none => rfl
  | some o => exact absurd (Heap.lt_size q) (Nat.lt_irrefl _)
theorem push_keeps {h : Heap} (o : Obj) : ∀ b x, h.get? b = some x → (h.push o).get? b = some x := fun _ _ e => Heap.get?_push_of_some o e

theorem EJ.list {pos : Pos} {es : List Expr} (h : LJ C A env V H pos es fun vs H₁ => vs.length ≤ sizeLine ∧ ∀ a, H₁ a = none → Q (.ref a) (H₁.set a (.list vs))) : EJ C A env V H (.List es pos) Q := fun s o =>
  wpAny_List (wpAny_mono (h s o) (fun vs s₁ ⟨H₁, ⟨hl, q⟩, h₁, t₁⟩ => ⟨by rw [← List.length_map (f := er)]; exact hl, by
    refine ⟨_, q _ (h₁.none_new (Heap.fresh s₁.heap)), h₁.set (fun b x _ e => push_keeps _ b x e) ⟨vs, ⟨0, Heap.get?_push_size _ rfl⟩, rfl⟩, t₁.trans (Tr.make (push_keeps _) (Heap.fresh _))⟩⟩) fun _ _ e => e)
theorem EJ.tuple {pos : Pos} {k : Nat} {es : List Expr} (h : LJ C A env V H pos es fun vs H₁ => vs.length ≤ sizeLine ∧ ∀ a, H₁ a = none → Q (.ref a) (H₁.set a (.tup vs))) : EJ C A env V H (.Tuple es k pos) Q := fun s o =>
  wpAny_Tuple (wpAny_mono (h s o) (fun vs s₁ ⟨H₁, ⟨hl, q⟩, h₁, t₁⟩ => ⟨by rw [← List.length_map (f := er)]; exact hl, by
    refine ⟨_, q _ (h₁.none_new (Heap.fresh s₁.heap)), h₁.set (fun b x _ e => push_keeps _ b x e) ⟨vs, ⟨_, Heap.get?_push_size _ rfl, rfl, 0, rfl⟩, rfl⟩, t₁.trans (Tr.make (push_keeps _) (Heap.fresh _))⟩⟩) fun _ _ e => e)

/-! ## calls -/
noncomputable def Fv : Value → Prop
  | .ref _ | .builtin _ | .type _ => True
  | _ => False
theorem er_inj {v f : Value} (hf : Fv f) (h : er v = er f) : v = f := by
  cases f <;> first | exact hf.elim | (cases v <;> simp [er] at h <;> rw [h])

/-- a call of f upon these values -/
noncomputable def CJ (C : Cx) (A : Around) (f : Value) (H : AH) (avs : List AV) (Q : AV → AH → Prop) : Prop :=
  ∀ s vals, vals.map er = avs → Wd C H s → wpAny C.M A (call f vals) (fun v s' => ∃ H', Q (er v) H' ∧ HasH H' s'.heap ∧ Tr NoX H s H' s') (fun _ _ => False) s
theorem CJ.mono {f : Value} {avs : List AV} {Q' : AV → AH → Prop} (x : CJ C A f H avs Q) (h : ∀ v H', Q v H' → Q' v H') : CJ C A f H avs Q' := fun s vals e o =>
  wpAny_mono (x s vals e o) (fun _ _ ⟨H', q, r⟩ => ⟨H', h _ _ q, r⟩) fun _ _ e => e

noncomputable def Old (C : Cx) (h : Heap) : Prop := ∀ b o, C.hb.get? b = some o → h.get? b = some o
noncomputable def KeptF (C : Cx) (f : Value) : Prop := ∀ h, Old C h → ∃ k, (k = Keeper.frame ∨ k = Keeper.machine ∨ k = Keeper.boundFrame) ∧ Looks C.M h (keeperOf f) k
theorem KeptF.builtin {id : String} : KeptF C (.builtin id) := fun _ _ => ⟨.machine, .inr (.inl rfl), Looks.of_pure rfl⟩
theorem KeptF.type {T : String} : KeptF C (.type T) := fun _ _ => ⟨.machine, .inr (.inl rfl), Looks.of_pure rfl⟩
theorem KeptF.fn {a : Addr} {oc : Value} {od : Option Addr} {fd : FuncData} {osl : Array (Option Value)} (e : C.hb.get? a = some ⟨oc, od, .func fd, osl⟩) : KeptF C (.ref a) := fun h' x => ⟨.frame, .inl rfl, (Looks.ld (part := none) (x _ _ e)).andThen .now⟩

theorem EJ.call {func e : Expr} {rest : List Expr} {pos : Pos}
    (h : EJ C A env V H func fun fv H₁ => ∃ f, er f = fv ∧ Fv f ∧ KeptF C f ∧ LJ C A env V H₁ pos (e :: rest) fun avs H₂ => CJ C A f H₂ avs Q)
    (he : starEach (e :: rest) env = (false, eval e env) :: starEach rest env) (hplain : (backTo pos (starEach rest env)).any (·.1) = false)
    (hc : eval (.Call func (e :: rest) [] pos) env = (do callWith pos (← eval func env) [] (backTo pos (starEach (e :: rest) env)) (backToKw pos (keywordEach [] env)))) :
    EJ C A env V H (.Call func (e :: rest) [] pos) Q := fun s o => by
  refine Call_ (wpAny_mono (h s o) (fun fv s₁ ⟨H₁, ⟨f, hf, hv, hk, q⟩, h₁, t₁⟩ => ?_) fun _ _ e => e) hc
  obtain rfl := er_inj hv hf.symm
  have hl := q s₁ (o.tr h₁ t₁)
  rw [he] at hl ⊢
  refine callWith_of (P := Old C) (by show ((false || (backTo pos (starEach rest env)).any (·.1)) || false) = false; rw [hplain]; rfl) hk (evalArgs_plain (wpAny_mono hl (fun vs s₂ ⟨H₂, q₂, h₂, t₂⟩ => ?_) fun _ _ e => e))
  have w₂ := ((o.tr h₁ t₁).tr h₂ t₂).wd
  exact ⟨w₂.keep, wpAny_mono (q₂ s₂ vs rfl w₂) (fun v s₃ ⟨H₃, q₃, h₃, t₃⟩ => ⟨H₃, q₃, h₃, t₁.trans (t₂.trans t₃)⟩) fun _ _ e => e⟩
end

/-! ## the text's functions -/
noncomputable abbrev envY (qual : Str) (scope : Scope) (L f : Addr) (cd : Value) : Env :=
  { scope := scope, locals := L, globals := mainGlobals, cells := cellsFrom (L + 1) scope.names [], qual := qual ++ ".<locals>.", func := some f, code := cd, frame := some L, builtins := builtinsNs }

noncomputable def FnAt (C : Cx) (name : Str) (f : Addr) (params : Arguments) (body : List Stmt) (scope : Scope) : Prop :=
  ∃ oc od osl doc pm an cdv ct, C.hb.get? f = some ⟨oc, od, .func (fnOf name name params body scope .none .none doc pm an cdv ct), osl⟩ ∧ C.hb.CodeRec cdv name ∧ C.mg name = some (.ref f)

noncomputable def bindV (kind : Str → Option NameKind) : List (Str × AV) → VM → VM
  | [], m => m
  | (n, v) :: r, m => bindV kind r fun y => if y = n then some v else m y

noncomputable def noV : VM := fun _ => none

theorem bind_vars {kind : Str → Option NameKind} : ∀ (binds : List (Str × Value)) (m cm : Str → Option Value) (V : VM),
    (∀ x ∈ binds, kind x.1 = some .local ∨ kind x.1 = some .cell) → (∀ x, kind x = some .local → (m x).map er = V x) → (∀ x, kind x = some .cell → (cm x).map er = V x) →
    (∀ x, kind x = some .local → (bindL kind binds m x).map er = bindV kind (binds.map fun p => (p.1, er p.2)) V x) ∧
    (∀ x, kind x = some .cell → (bindC kind binds cm x).map er = bindV kind (binds.map fun p => (p.1, er p.2)) V x)
  | [], m, cm, V, _, h1, h2 => ⟨h1, h2⟩
  | (n, v) :: r, m, cm, V, hk, h1, h2 => by
    unfold bindL bindC
    refine bind_vars r _ _ _ (fun x hx => hk x (.tail _ hx)) (fun x hx => ?_) fun x hx => ?_
    · split
      · rename_i hn
        by_cases q : x = n
        · subst q; simp
        · simp [q, h1 x hx]
      · rename_i hn
        by_cases q : x = n
        · subst q; exact absurd hx hn
        · simp [q, h1 x hx]
    · split
      · rename_i hn
        by_cases q : x = n
        · subst q; rw [hx] at hn; cases hn
        · simp [q, h2 x hx]
      · by_cases q : x = n
        · subst q; simp
        · simp [q, h2 x hx]

theorem bindArgs_of {fd : FuncData} {vals : List Value} {binds : List (Str × Value)} (h : bindArgs fd ⟨vals, []⟩ = pure binds) : bindArgs fd ⟨vals, []⟩ = pure binds := h

section
variable {C : Cx} {A : Around} {H : AH} {Q : AV → AH → Prop}

theorem Tr.drop {X : Addr → Prop} {H H' : AH} {s s' : Shared} (x : Tr X H s H' s') (h : ∀ b, X b → s.heap.get? b = none) : Tr NoX H s H' s' :=
  ⟨x.same, fun b o e hH _ => x.keep b o e hH (fun q => by rw [h b q] at e; cases e), x.dom, x.alive⟩

theorem CJ.fn {k : Nat} {name : Str} {f : Addr} {params : Arguments} {body : List Stmt} {scope : Scope} {avs : List AV} {ps : List Str} (hf : FnAt C name f params body scope) (hA : Room (k + 1) A)
    (hbind : ∀ (doc pm cdv ct : Value) (an : Option Addr) (vals : List Value), vals.length = avs.length → bindArgs (fnOf name name params body scope .none .none doc pm an cdv ct) ⟨vals, []⟩ = pure (ps.zip vals))
    (hkind : (ps.all fun x => scope.names.lookup x == some .local || scope.names.lookup x == some .cell) = true)
    (hco : scope.isCoroutine = false) (hgen : scope.isGenerator = false) (hk : scope.kind = .function)
    (h : ∀ A' L cd, Room k A' → EnvOk C (envY name scope L f cd) → SJ C A' (envY name scope L f cd) (bindV (fun x => scope.names.lookup x) (ps.zip avs) noV) H body fun fl _ H' => Q (match fl with | .ret v => v | _ => .none) H') :
    CJ C A (.ref f) H avs Q := fun s vals e o => by
  obtain ⟨oc, od, osl, doc, pm, an, cdv, ct, ho, hcd, _⟩ := hf
  have hlen : vals.length = avs.length := by rw [← e, List.length_map]
  have hall : ((ps.zip vals).all fun y => scope.names.lookup y.1 == some .local || scope.names.lookup y.1 == some .cell) = true := List.all_eq_true.mpr fun y hy => List.all_eq_true.mp hkind y.1 (List.of_mem_zip hy).1
  refine wpAny_call (codeAny_call_cells (fd := fnOf name name params body scope .none .none doc pm an cdv ct) (body := body) (binds := ps.zip vals) (by have := hA.depth; unfold recursionLimit; (first | lia | omega)) (o.keep _ _ ho) rfl
    (C.noLimit.keeps o.keep) (hcd.keeps o.keep) rfl (hbind doc pm cdv ct an vals hlen) rfl (kindsX hall _) (fun s₁ x => ?_) hco hgen hk)
  have hold : ∀ b x, C.hb.get? b = some x → b < s.heap.objs.size := fun b x e => Heap.lt_size (o.keep b x e)
  have hnew : ∀ b, s.heap.objs.size ≤ b → C.hb.get? b = none := fun b hb => by
    cases q : C.hb.get? b with
    | none => rfl
    | some z => exact absurd (hold b z q) (Nat.not_lt.mpr hb)
  have fr := x.toInCall.fresh
  have cab : ∀ n c, (envY name scope s.heap.objs.size f cdv).cells.lookup n = some c → s.heap.objs.size < c := fun n c hc => x.above n c (mem_of_lookup hc)
  have eo : EnvOk C (envY name scope s.heap.objs.size f cdv) :=
    ⟨hk, rfl, rfl, hnew _ (Nat.le_refl _), fun n c hc => hnew _ (Nat.le_of_lt (cab n c hc)), x.apart, fun n c hc => Nat.ne_of_gt (cab n c hc),
      fun n hn => Option.isSome_iff_exists.mp (cellsFrom_some _ _ _ (.inl hn))⟩
  have t₁ : Tr (FrX (envY name scope s.heap.objs.size f cdv)) H s H s₁ := by
    obtain ⟨h₁, tk, e₁⟩ := x.toInCall.same
    have kp := x.toInCall.keep
    subst e₁
    exact Tr.grow kp
  have hh : HasH H s₁.heap := o.has.keep x.toInCall.keep
  have wd : Wd C H s₁ := o.tr eo.new hh t₁
  have bv := bind_vars (kind := fun x => scope.names.lookup x) (ps.zip vals) (fun _ => none) (fun _ => none) noV (fun y hy => by
    rcases Bool.or_eq_true_iff.mp (List.all_eq_true.mp hall y hy) with q | q
    · exact .inl (beq_iff_eq.mp q)
    · exact .inr (beq_iff_eq.mp q)) (fun _ _ => rfl) fun _ _ => rfl
  have ez : (ps.zip vals).map (fun p => (p.1, er p.2)) = ps.zip avs := by
    rw [← e, List.zip_map_right]; rfl
  rw [ez] at bv
  have vars : Vars (envY name scope s.heap.objs.size f cdv) (bindV (fun x => scope.names.lookup x) (ps.zip avs) noV) s₁.heap :=
    ⟨⟨_, x.toInCall.ns, fun y hy => bv.1 y hy⟩, fun y c hc => ⟨_, x.cell y c hc, fun hy => bv.2 y hy⟩⟩
  have body' := h (A.deeper (envY name scope s.heap.objs.size f cdv)) s.heap.objs.size cdv (hA.deeper _) eo s₁ ⟨eo, vars, wd⟩
  refine wpAny_mono body' (fun fl s' hq => ?_) fun _ _ z => z.elim
  obtain ⟨V', H', q, _, h', t'⟩ := hq
  refine ⟨H', ?_, h', (t₁.trans t').drop fun b hb => ?_⟩
  · cases fl <;> exact q
  · rcases hb with rfl | ⟨n, hb⟩
    · exact Heap.fresh _
    · cases q : s.heap.get? b with
      | none => rfl
      | some z => exact absurd (Heap.lt_size q) (Nat.not_lt.mpr (Nat.le_of_lt (cab n b hb)))
end


noncomputable def VM.set (V : VM) (x : Str) (v : AV) : VM := fun y => if y = x then some v else V y
theorem VM.set_self {V : VM} {x : Str} {v : AV} : V.set x v x = some v := if_pos rfl
theorem VM.set_ne {V : VM} {x y : Str} {v : AV} (h : (y == x) = false) : V.set x v y = V y := if_neg (by simpa using h)

section
variable {C : Cx} {A : Around} {env : Env} {V : VM} {H : AH} {Q : AF → VM → AH → Prop}

theorem SJ.nil (h : Q .next V H) : SJ C A env V H [] Q := fun s o => wpAny_execs_nil ⟨V, H, h, o.vars, o.wd.has, Tr.refl⟩
theorem SJ.cons {st : Stmt} {rest : List Stmt} (h : XJ C A env V H st fun fl V₁ H₁ => match fl with | .next => SJ C A env V₁ H₁ rest Q | fl => Q fl V₁ H₁) : SJ C A env V H (st :: rest) Q := fun s o =>
  wpAny_execs_cons (wpAny_mono (h s o) (fun fl s₁ ⟨V₁, H₁, q, v₁, h₁, t₁⟩ => by
    cases fl with
    | next => exact wpAny_mono (q s₁ (o.trS v₁ h₁ t₁)) (fun fl' s₂ ⟨V₂, H₂, q₂, v₂, h₂, t₂⟩ => ⟨V₂, H₂, q₂, v₂, h₂, t₁.trans t₂⟩) fun _ _ e => e
    | brk => exact ⟨V₁, H₁, q, v₁, h₁, t₁⟩
    | cont => exact ⟨V₁, H₁, q, v₁, h₁, t₁⟩
    | ret v => exact ⟨V₁, H₁, q, v₁, h₁, t₁⟩) fun _ _ e => e)

theorem XJ.ret {e : Expr} {pos : Pos} (h : EJ C A env V H e fun v H₁ => Q (.ret v) V H₁) : XJ C A env V H (.Return (some e) pos) Q := fun s o =>
  wpAny_Return_some (wpAny_mono (h s o) (fun v s₁ ⟨H₁, q, h₁, t₁⟩ => ⟨V, H₁, q, o.vars.tr o.wd.has t₁, h₁, t₁.toX⟩) fun _ _ e => e)
theorem XJ.if_ {test : Expr} {body orelse : List Stmt} {pos : Pos} (h : TJ C A env V H test fun b H₁ => if b then SJ C A env V H₁ body Q else SJ C A env V H₁ orelse Q) :
    XJ C A env V H (.If test body orelse pos) Q := fun s o => wpAny_If (wpAny_mono (h s o) (fun b s₁ ⟨H₁, q, h₁, t₁⟩ => by
  cases b
  · exact wpAny_mono (q s₁ (o.tr h₁ t₁)) (fun fl' s₂ ⟨V₂, H₂, q₂, v₂, h₂, t₂⟩ => ⟨V₂, H₂, q₂, v₂, h₂, t₁.toX.trans t₂⟩) fun _ _ e => e
  · exact wpAny_mono (q s₁ (o.tr h₁ t₁)) (fun fl' s₂ ⟨V₂, H₂, q₂, v₂, h₂, t₂⟩ => ⟨V₂, H₂, q₂, v₂, h₂, t₁.toX.trans t₂⟩) fun _ _ e => e) fun _ _ e => e)

/-- what a store of this name may turn -/
noncomputable def StX (env : Env) (X : Addr → Prop) (x : Str) : Prop := ∀ b, ((env.kindOf x = some .local ∧ b = env.locals) ∨ (env.kindOf x = some .cell ∧ env.cells.lookup x = some b)) → X b
noncomputable def LocX (env : Env) (b : Addr) : Prop := b = env.locals
theorem StX.fr {x : Str} : StX env (FrX env) x := fun b h => h.elim (fun q => .inl q.2) fun q => .inr ⟨x, q.2⟩
theorem StX.loc {x : Str} (h : env.kindOf x = some .local) : StX env (LocX env) x := fun b q => q.elim (fun q => q.2) fun q => by rw [h] at q; exact nomatch q.1

/-- a name is stored -/
theorem storeX {X : Addr → Prop} {x : Str} {v : Value} {s : Shared} {R : Unit → Shared → Prop} {E : Value → Shared → Prop} (hX : StX env X x) (o : Ok C env V H s) (hk : kindB env x = true)
    (h : ∀ s', Vars env (V.set x (er v)) s'.heap → HasH H s'.heap → Tr X H s H s' → R () s') : wpAny C.M A (storeName env x v) R E s := by
  have hp : (env.scope.kind == .class || (env.scope.kind == .module && env.locals != env.globals)) = false := by rw [o.eo.kind]; rfl
  have keepTr : ∀ (a : Addr) (h' : Heap) (tk : Nat), X a → Heap.SameBut a s.heap h' → (h'.get? a).isSome → H a = none → HasH H h' ∧ Tr X H s H { s with heap := h', toks := tk } := fun a h' tk hf hs ha hn =>
    ⟨fun b c e => (o.wd.has b c e).at fun ob eb => (hs.2 b fun q => by rw [q, hn] at e; cases e).trans eb,
      ⟨⟨_, _, rfl⟩, fun b ob e _ hX => (hs.2 b fun q => hX (q ▸ hf)).trans e, fun b hb hb' => (hb' hb).elim, fun b e => by
        by_cases q : b = a
        · have e' : h'.get? b = none := e
          rw [q] at e'; rw [e'] at ha; cases ha
        · exact (hs.2 b q).symm.trans e⟩⟩
  rcases Bool.or_eq_true_iff.mp hk with hl | hl
  · have hl := beq_iff_eq.mp hl
    obtain ⟨m, hn, hm⟩ := o.vars.loc
    refine wpAny_storeName_local hl hn (fun h' hn' hs => ?_) hp
    obtain ⟨hh, ht⟩ := keepTr env.locals h' (s.toks + 1) (hX _ (.inl ⟨hl, rfl⟩)) hs (by obtain ⟨o', _, _, e, _⟩ := hn'; rw [e]; rfl) (o.wd.has.not_ns hn)
    refine h _ ⟨⟨_, hn', fun y hy => ?_⟩, fun y c hc => ?_⟩ hh ht
    · unfold VM.set
      by_cases q : y = x
      · simp [q]
      · simp [q, hm y hy]
    · obtain ⟨u, hu, e⟩ := o.vars.cell y c hc
      refine ⟨u, hu.sameBut hs (o.eo.locCell y c hc), fun hy => ?_⟩
      have e := e hy
      have q : y ≠ x := fun q => by subst q; rw [hl] at hy; cases hy
      unfold VM.set; rw [if_neg q]; exact e
  · have hl := beq_iff_eq.mp hl
    obtain ⟨c, hc⟩ := o.eo.cellHas x hl
    obtain ⟨w, hw, e⟩ := o.vars.cell x c hc
    refine wpAny_storeName_cell o.eo.kind hl hc hw fun h' hw' hs => ?_
    obtain ⟨hh, ht⟩ := keepTr c h' s.toks (hX _ (.inr ⟨hl, hc⟩)) hs (by obtain ⟨o', e, _⟩ := hw'; rw [e]; rfl) (o.wd.has.not_cell hw)
    obtain ⟨m, hn, hm⟩ := o.vars.loc
    refine h _ ⟨⟨m, hn.sameBut hs (Ne.symm (o.eo.locCell x c hc)), fun y hy => ?_⟩, fun y c' hc' => ?_⟩ hh ht
    · have q : y ≠ x := fun q => by subst q; rw [hl] at hy; cases hy
      unfold VM.set; rw [if_neg q]; exact hm y hy
    · by_cases q : y = x
      · subst q
        rw [hc] at hc'; cases hc'
        exact ⟨_, hw', fun _ => by rw [VM.set_self]; rfl⟩
      · obtain ⟨u, hu, e'⟩ := o.vars.cell y c' hc'
        refine ⟨u, hu.sameBut hs fun z => q (name_of_addr o.eo.apart (mem_of_lookup hc') (z ▸ mem_of_lookup hc)), fun hy => ?_⟩
        unfold VM.set; rw [if_neg q]; exact e' hy

theorem store {x : Str} {v : Value} {s : Shared} {R : Unit → Shared → Prop} {E : Value → Shared → Prop} (o : Ok C env V H s) (hk : kindB env x = true)
    (h : ∀ s', Vars env (V.set x (er v)) s'.heap → HasH H s'.heap → Tr (FrX env) H s H s' → R () s') : wpAny C.M A (storeName env x v) R E s := storeX StX.fr o hk h

theorem XJ.assign {x : Str} {e : Expr} {p' pos : Pos} (h : EJ C A env V H e fun v H₁ => Q .next (V.set x v) H₁) (hk : kindB env x = true) (hs : swapsWith e (some (.Name x p')) pos.line env = pure false) :
    XJ C A env V H (.Assign [.Name x p'] e pos) Q := fun s o =>
  wpAny_Assign_Name (wpAny_mono (h s o) (fun v s₁ ⟨H₁, q, h₁, t₁⟩ => store (o.tr h₁ t₁) hk fun s₂ v₂ h₂ t₂ => ⟨_, H₁, q, v₂, h₂, t₁.toX.trans t₂⟩) fun _ _ e => e) hs

theorem XJ.aug {x : Str} {op : Operator} {e : Expr} {p' pos : Pos} {v : AV} (hv : V x = some v) (hk : kindB env x = true)
    (h : EJ C A env V H e fun w H₁ => BO C A H₁ (inplaceOp op) v w fun r H₂ => Q .next (V.set x r) H₂) : XJ C A env V H (.AugAssign (.Name x p') op e pos) Q := fun s o => by
  refine wpAny_AugAssign_Name ?_
  have go : ∀ u, er u = v → wpAny C.M A (eval e env) (fun w s₂ => wpAny C.M A (inplaceOp op u w) (fun r s₃ => wpAny C.M A (storeName env x r) (fun _ s' => ∃ V' H', Q (erF .next) V' H' ∧ Vars env V' s'.heap ∧ HasH H' s'.heap ∧ Tr (FrX env) H s H' s')
      (fun _ _ => False) s₃) (fun _ _ => False) s₂) (fun _ _ => False) s := fun u hu =>
    wpAny_mono (h s o) (fun w s₁ ⟨H₁, q, h₁, t₁⟩ => wpAny_mono ((q u w hu rfl).run (o.tr h₁ t₁).wd t₁) (fun r s₂ ⟨H₂, q₂, h₂, t₂⟩ => store (o.tr h₂ t₂) hk fun s₃ v₃ h₃ t₃ => ⟨_, H₂, q₂, v₃, h₃, t₂.toX.trans t₃⟩) fun _ _ e => e) fun _ _ e => e
  rcases Bool.or_eq_true_iff.mp hk with hl | hl
  · have hl := beq_iff_eq.mp hl
    obtain ⟨m, hn, hm⟩ := o.vars.loc
    have e := hm x hl
    rw [hv] at e
    obtain ⟨u, hu, e'⟩ := Option.map_eq_some_iff.mp e
    exact wpAny_loadName_local o.eo.kind hl hn hu (go u e')
  · have hl := beq_iff_eq.mp hl
    obtain ⟨c, hc⟩ := o.eo.cellHas x hl
    obtain ⟨w, hw, e⟩ := o.vars.cell x c hc
    have e := e hl
    rw [hv] at e
    obtain ⟨u, hu, e'⟩ := Option.map_eq_some_iff.mp e
    exact wpAny_loadName_cell o.eo.kind hl hc (hu ▸ hw) (go u e')

/-- names stored in order -/
noncomputable def VM.sets (V : VM) : List (Str × AV) → VM
  | [] => V
  | (x, v) :: r => VM.sets (V.set x v) r

theorem stores : ∀ (xs : List Str) (vs : List Value) {V : VM} {s : Shared} {R : Unit → Shared → Prop} {E : Value → Shared → Prop}, Ok C env V H s → xs.length = vs.length → (xs.all (kindB env)) = true →
    (∀ s', Vars env (V.sets (xs.zip (vs.map er))) s'.heap → HasH H s'.heap → Tr (FrX env) H s H s' → R () s') → wpAny C.M A (assignInOrder (xs.map fun n => bindName env n) vs) R E s
  | [], [], V, s, R, E, o, _, _, h => wpAny_assignInOrder_none (h s o.vars o.wd.has Tr.refl)
  | x :: xs, v :: vs, V, s, R, E, o, hl, hk, h => by
    have hk' := Bool.and_eq_true_iff.mp hk
    refine wpAny_assignInOrder_more (wpAny_bindName (store o hk'.1 fun s₁ v₁ h₁ t₁ => ?_))
    exact stores xs vs (o.trS v₁ h₁ t₁) (by simpa using hl) hk'.2 fun s₂ v₂ h₂ t₂ => h s₂ v₂ h₂ (t₁.trans t₂)
  | [], _ :: _, _, _, _, _, _, hl, _, _ => by simp at hl
  | _ :: _, [], _, _, _, _, _, hl, _, _ => by simp at hl

theorem ext_keep {h h' : Heap} (x : Heap.ExtBut h.objs.size h h') : ∀ b o, h.get? b = some o → h'.get? b = some o := fun b o e => x b o (Nat.ne_of_lt (Heap.lt_size e)) e

theorem zip_rev {α β : Type} {xs : List α} {ys : List β} (h : xs.length = ys.length) : (xs.zip ys).reverse = xs.reverse.zip ys.reverse := by
  simp only [List.zip, List.reverse_zipWith h]

/-- a, b = (x, y): stores from behind -/
theorem XJ.swap {elts : List Expr} {k : Nat} {tpos pos : Pos} {e : Expr} {names : List Str} (hh : A.handled = none)
    (h : EJ C A env V H e fun v H₁ => ∃ a vs, v = .ref a ∧ H₁ a = some (.tup vs) ∧ vs.length = names.length ∧ Q .next (V.sets (names.zip vs).reverse) H₁)
    (hk : names.all (kindB env) = true) (hs : swapsWithSole [.Tuple elts k tpos] e pos.line env = pure false) (hw : swappedStores [.Tuple elts k tpos] e env = pure (some names)) :
    XJ C A env V H (.Assign [.Tuple elts k tpos] e pos) Q := fun s o => by
  refine Assign_Tuple_swapped (wpAny_mono (h s o) (fun v s₁ ⟨H₁, ⟨a, vs, hv, ha, hlen, q⟩, h₁, t₁⟩ => ?_) fun _ _ e => e) hs hw
  obtain rfl := er_ref hv
  obtain ⟨us, hu, hm⟩ := h₁ a _ ha
  have hus : us.length = names.length := by rw [← hlen, ← hm, List.length_map]
  rw [show names.length = us.toArray.size from by rw [List.size_toArray, hus]]
  refine wpAny_unpackItems_tuple hh hu fun h' hx => ?_
  have kp := ext_keep hx
  have t₂ : Tr NoX H₁ s₁ H₁ { s₁ with heap := h' } := Tr.grow kp
  have hh₂ := h₁.keep kp
  have o₂ := (o.tr h₁ t₁).tr hh₂ t₂
  refine stores names.reverse us.reverse o₂ (by simp [hus]) (by simpa using hk) fun s₃ v₃ h₃ t₃ => ?_
  refine ⟨_, H₁, q, ?_, h₃, (t₁.trans t₂).toX.trans t₃⟩
  have ez : names.reverse.zip (us.reverse.map er) = (names.zip vs).reverse := by
    rw [← hm, List.map_reverse, zip_rev (by simp [hus])]
  rw [ez] at v₃
  exact v₃

noncomputable def namesOf (nps : List (Str × Pos)) : List Expr := nps.map fun np => .Name np.1 np.2
theorem assignEach_names : ∀ nps : List (Str × Pos), assignEach (namesOf nps) env = nps.map fun np => (false, assign (.Name np.1 np.2) env)
  | [] => rfl
  | np :: r => by
    show (false, assign (.Name np.1 np.2) env) :: assignEach (namesOf r) env = _
    rw [assignEach_names r]; rfl
theorem stores2 {X : Addr → Prop} (hXF : ∀ b, X b → FrX env b) : ∀ (nps : List (Str × Pos)) (vs : List Value) {V : VM} {s : Shared} {R : Unit → Shared → Prop} {E : Value → Shared → Prop}, (∀ np ∈ nps, StX env X np.1) → Ok C env V H s → nps.length = vs.length → (nps.all fun np => kindB env np.1) = true →
    (∀ s', Vars env (V.sets ((nps.map (·.1)).zip (vs.map er))) s'.heap → HasH H s'.heap → Tr X H s H s' → R () s') → wpAny C.M A (assignInOrder (nps.map fun np => assign (.Name np.1 np.2) env) vs) R E s
  | [], [], V, s, R, E, _, o, _, _, h => wpAny_assignInOrder_none (h s o.vars o.wd.has Tr.refl)
  | x :: xs, v :: vs, V, s, R, E, hX, o, hl, hk, h => by
    have hk' := Bool.and_eq_true_iff.mp hk
    refine wpAny_assignInOrder_more (PyProof.Rows.assign_Name (storeX (hX x (.head _)) o hk'.1 fun s₁ v₁ h₁ t₁ => ?_))
    exact stores2 hXF xs vs (fun np hp => hX np (.tail _ hp)) (o.trS v₁ h₁ (t₁.mono hXF)) (by simpa using hl) hk'.2 fun s₂ v₂ h₂ t₂ => h s₂ v₂ h₂ (t₁.trans t₂)
  | [], _ :: _, _, _, _, _, _, _, hl, _, _ => by simp at hl
  | _ :: _, [], _, _, _, _, _, _, hl, _, _ => by simp at hl
/-- the names of a tuple target get a tuple's items -/
theorem assign_pair {X : Addr → Prop} (hXF : ∀ b, X b → FrX env b) {nps : List (Str × Pos)} {k : Nat} {tpos : Pos} {a : Addr} {us : List Value} {s : Shared} {R : Unit → Shared → Prop} (hX : ∀ np ∈ nps, StX env X np.1) (hh : A.handled = none) (o : Ok C env V H s) (ht : s.heap.IsTuple a us.toArray)
    (hl : nps.length = us.length) (hk : (nps.all fun np => kindB env np.1) = true)
    (h : ∀ s', Vars env (V.sets ((nps.map (·.1)).zip (us.map er))) s'.heap → HasH H s'.heap → Tr X H s H s' → R () s') : wpAny C.M A (assign (.Tuple (namesOf nps) k tpos) env (.ref a)) R (fun _ _ => False) s := by
  refine wpAny_assign_Tuple hh ht (by rw [assignEach_names]; simp [hl]) ?_ fun h' hx => ?_
  · rw [assignEach_names]
    rw [List.findIdx?_eq_none_iff]
    intro x hx
    obtain ⟨np, _, rfl⟩ := List.mem_map.mp hx
    rfl
  · have kp := ext_keep hx
    have t₂ : Tr NoX H s H { s with heap := h' } := Tr.grow kp
    rw [assignEach_names, List.map_map]
    exact stores2 hXF nps us hX (o.tr (o.wd.has.keep kp) t₂) hl hk fun s₃ v₃ h₃ t₃ => h s₃ v₃ h₃ (t₂.toX.trans t₃)

/-- a, b = f(..): stores in order -/
theorem XJ.unpack {nps : List (Str × Pos)} {k : Nat} {tpos pos : Pos} {e : Expr} (hh : A.handled = none)
    (h : EJ C A env V H e fun v H₁ => ∃ a vs, v = .ref a ∧ H₁ a = some (.tup vs) ∧ vs.length = nps.length ∧ Q .next (V.sets ((nps.map (·.1)).zip vs)) H₁)
    (hk : (nps.all fun np => kindB env np.1) = true) (hs : swapsWithSole [.Tuple (namesOf nps) k tpos] e pos.line env = pure false) (hw : swappedStores [.Tuple (namesOf nps) k tpos] e env = pure none) :
    XJ C A env V H (.Assign [.Tuple (namesOf nps) k tpos] e pos) Q := fun s o => by
  refine Assign_Tuple (wpAny_mono (h s o) (fun v s₁ ⟨H₁, ⟨a, vs, hv, ha, hlen, q⟩, h₁, t₁⟩ => ?_) fun _ _ e => e) hs hw
  obtain rfl := er_ref hv
  obtain ⟨us, hu, hm⟩ := h₁ a _ ha
  refine assign_pair (fun _ q => q) (fun _ _ => StX.fr) hh (o.tr h₁ t₁) hu (by rw [← hlen, ← hm, List.length_map]) hk fun s₃ v₃ h₃ t₃ => ⟨_, H₁, q, by rw [hm] at v₃; exact v₃, h₃, t₁.toX.trans t₃⟩

theorem XJ.setItem {ex i e : Expr} {p' pos : Pos} (h : EJ C A env V H e fun v H₁ => EJ C A env V H₁ ex fun ov H₂ => EJ C A env V H₂ i fun iv H₃ =>
      ∃ a xs k, ov = .ref a ∧ iv = .int (k : Nat) ∧ H₃ a = some (.list xs) ∧ k < xs.length ∧ xs.length < 2 ^ 63 ∧ Q .next V (H₃.set a (.list (xs.set k v))))
    (hs : swapsWith e (some (.Subscript ex i p')) pos.line env = pure false) : XJ C A env V H (.Assign [.Subscript ex i p'] e pos) Q := fun s o => by
  refine wpAny_Assign_Subscript (wpAny_mono (h s o) (fun v s₁ ⟨H₁, q, h₁, t₁⟩ => wpAny_mono (q s₁ (o.tr h₁ t₁)) (fun ov s₂ ⟨H₂, q₂, h₂, t₂⟩ =>
    wpAny_mono (q₂ s₂ ((o.tr h₁ t₁).tr h₂ t₂)) (fun iv s₃ ⟨H₃, q₃, h₃, t₃⟩ => ?_) fun _ _ e => e) fun _ _ e => e) fun _ _ e => e) hs
  obtain ⟨a, xs, k, ha, hi, hc, hk, hz, q₄⟩ := q₃
  obtain rfl := er_ref ha
  obtain ⟨t, rfl⟩ := er_int hi
  obtain ⟨vs, ⟨n, hp⟩, hm⟩ := h₃ a _ hc
  have hlen : vs.length = xs.length := by rw [← hm, List.length_map]
  have t₁₃ := t₁.trans (t₂.trans t₃)
  have o₃ := o.tr h₃ t₁₃
  refine ki_setAt hp (Int.natCast_nonneg k) (by (first | lia | omega)) (by simp; (first | lia | omega)) ?_
  have hs' : Heap.SameBut a s₃.heap (s₃.heap.update a (Obj.mapSeq (·.setIfInBounds (k : Int).toNat v))) := Heap.SameBut.update ..
  have ec : ∃ n', (s₃.heap.update a (Obj.mapSeq (·.setIfInBounds (k : Int).toNat v))).get? a = some { cls := .type "list", data := .seq (vs.set k v).toArray n' } := by
    have e1 := Heap.get?_update_self (Obj.mapSeq (·.setIfInBounds (k : Int).toNat v)) hp rfl
    rw [e1]
    simp [Obj.mapSeq]
  obtain ⟨n', ec⟩ := ec
  have t₄ : Tr NoX H₃ s₃ (H₃.set a (.list (xs.set k (er v)))) { s₃ with heap := s₃.heap.update a (Obj.mapSeq (·.setIfInBounds (k : Int).toNat v)) } := Tr.write hs' hc (by rw [ec]; rfl)
  refine ⟨V, _, q₄, o.vars.tr o.wd.has (t₁₃.trans t₄), h₃.set (fun b x hb e => (hs'.2 b hb).trans e) ⟨vs.set k v, ⟨n', ec⟩, by rw [← hm, List.map_set]⟩, (t₁₃.trans t₄).toX⟩
end


inductive IV where
  | one (v : AV)
  | two (u v : AV)
inductive It where
  | list (a : Addr)
  | range (a c : Int) (n : Nat)
  | enum (a : Addr)
  | zip (a b : Addr)

/-- the k-th item: none: no such list; some none: the end -/
noncomputable def itemAt (H : AH) : It → Nat → Option (Option IV)
  | .list a, k => match H a with
    | some (.list xs) => some (xs[k]?.map .one)
    | _ => none
  | .range a c n, k => some (if k < n then some (.one (.int (a + k * c))) else none)
  | .enum a, k => match H a with
    | some (.list xs) => some (xs[k]?.map fun x => .two (.int k) x)
    | _ => none
  | .zip a b, k => match H a, H b with
    | some (.list xs), some (.list ys) => some (match xs[k]?, ys[k]? with | some x, some y => some (.two x y) | _, _ => none)
    | _, _ => none

noncomputable def ItCore (h : Heap) (I : Addr) (own : List Addr) : It → Nat → Prop
  | .list a, k => own = [I] ∧ h.IsListIter I a k
  | .range a c n, k => own = [I] ∧ k ≤ n ∧ IsRangeIter h I (a + k * c) ((n : Int) - k) c
  | .enum a, k => ∃ it old, own = [I, it] ∧ I ≠ it ∧ IsEnum h I it k old ∧ h.IsListIter it a k
  | .zip a b, k => ∃ TI TO i1 i2 u v, own = [I, TI, TO, i1, i2] ∧ ZipApart I TI TO i1 i2 a b ∧ IsZip h I TI TO .none ∧ IsPair h TI (.ref i1) (.ref i2) ∧ IsPair h TO u v ∧ h.IsListIter i1 a k ∧ h.IsListIter i2 b k

theorem ItCore.at {h h' : Heap} {I : Addr} {own : List Addr} {it : It} {k : Nat} (x : ItCore h I own it k) (e : ∀ b ∈ own, ∀ o, h.get? b = some o → h'.get? b = some o) : ItCore h' I own it k := by
  cases it with
  | list a => obtain ⟨rfl, q⟩ := x; exact ⟨rfl, q.at (e I (by simp))⟩
  | range a c n => obtain ⟨rfl, l, q⟩ := x; exact ⟨rfl, l, e I (by simp) _ q⟩
  | enum a => obtain ⟨it, old, rfl, hne, q, q'⟩ := x; exact ⟨it, old, rfl, hne, e I (by simp) _ q, q'.at (e it (by simp))⟩
  | zip a b =>
    obtain ⟨TI, TO, i1, i2, u, v, rfl, D, hz, h1, h2, h3, h4⟩ := x
    exact ⟨TI, TO, i1, i2, u, v, rfl, D, e I (by simp) _ hz, e TI (by simp) _ h1, e TO (by simp) _ h2, h3.at (e i1 (by simp)), h4.at (e i2 (by simp))⟩

/-- the iterator's own things: apart from the abstract heap, from what stood, from the frame -/
structure Owned (C : Cx) (env : Env) (H : AH) (own : List Addr) : Prop where
  noH : ∀ b ∈ own, H b = none
  new : ∀ b ∈ own, C.hb.get? b = none
  noFr : ∀ b ∈ own, ¬ FrX env b

structure OwnStep (X : Addr → Prop) (own : List Addr) (H : AH) (s s₁ : Shared) : Prop where
  same : ∃ h tk, s₁ = { s with heap := h, toks := tk }
  keep : ∀ b o, s.heap.get? b = some o → b ∉ own → H b = none → ¬ X b → s₁.heap.get? b = some o
  alive : ∀ b, b ∉ own → s₁.heap.get? b = none → s.heap.get? b = none

theorem OwnStep.mono {X Y : Addr → Prop} {own : List Addr} {H : AH} {s s₁ : Shared} (x : OwnStep X own H s s₁) (h : ∀ b, X b → Y b) : OwnStep Y own H s s₁ := ⟨x.same, fun b o e h1 h2 h3 => x.keep b o e h1 h2 fun q => h3 (h b q), x.alive⟩
theorem OwnStep.of_tr {X : Addr → Prop} {own : List Addr} {H : AH} {s s₁ : Shared} (t : Tr X H s H s₁) : OwnStep X own H s s₁ := ⟨t.same, fun b o e _ h1 h2 => t.keep b o e h1 h2, fun b _ e => t.alive b e⟩
theorem OwnStep.trans {X : Addr → Prop} {own : List Addr} {H : AH} {s s₁ s₂ : Shared} (x : OwnStep X own H s s₁) (y : OwnStep X own H s₁ s₂) : OwnStep X own H s s₂ := by
  obtain ⟨⟨h, tk, rfl⟩, k1, a1⟩ := x
  obtain ⟨⟨h', tk', rfl⟩, k2, a2⟩ := y
  exact ⟨⟨h', tk', rfl⟩, fun b o e h1 h2 h3 => k2 b o (k1 b o e h1 h2 h3) h1 h2 h3, fun b hb e => a1 b hb (a2 b hb e)⟩
theorem OwnStep.of_keep {X : Addr → Prop} {own : List Addr} {H : AH} {s : Shared} {h : Heap} {tk : Nat} (k : ∀ b o, b ∉ own → s.heap.get? b = some o → h.get? b = some o) : OwnStep X own H s { s with heap := h, toks := tk } :=
  ⟨⟨_, _, rfl⟩, fun b o e hb _ _ => k b o hb e, fun b hb e => by
    cases q : s.heap.get? b with
    | none => rfl
    | some o => have e' : h.get? b = none := e; rw [k b o hb q] at e'; cases e'⟩

theorem Tr.own {X : Addr → Prop} {own : List Addr} {H₀ H : AH} {s₀ s s₁ : Shared} (x : Tr X H₀ s₀ H s) (y : OwnStep X own H s s₁) (hn : ∀ b ∈ own, s₀.heap.get? b = none) : Tr X H₀ s₀ H s₁ := by
  obtain ⟨⟨h, tk, rfl⟩, k1, d1, a1⟩ := x
  obtain ⟨⟨h', tk', rfl⟩, k2, a2⟩ := y
  refine ⟨⟨h', tk', rfl⟩, fun b o e h1 h2 => ?_, d1, fun b e => ?_⟩
  · refine k2 b o (k1 b o e h1 h2) (fun q => by rw [hn b q] at e; cases e) ?_ h2
    cases q : H b with
    | none => rfl
    | some c => have := d1 b h1 (by rw [q]; exact fun z => nomatch z); rw [this] at e; cases e
  · by_cases q : b ∈ own
    · exact hn b q
    · exact a1 b (a2 b q e)

section
variable {C : Cx} {A : Around} {env : Env} {V : VM} {H : AH}

theorem Ok.own {own : List Addr} {V' : VM} {s s₁ : Shared} (o : Ok C env V H s) (w : Owned C env H own) (y : OwnStep (FrX env) own H s s₁) (v : Vars env V' s₁.heap) (hh : HasH H s₁.heap) : Ok C env V' H s₁ :=
  ⟨o.eo, v, ⟨fun b x e => y.keep b x (o.wd.keep b x e) (fun q => by rw [w.new b q] at e; cases e) (by
    cases q : H b with
    | none => rfl
    | some c => have := o.wd.new b (by rw [q]; exact fun z => nomatch z); rw [this] at e; cases e) (fun q => by rw [o.eo.new b q] at e; cases e), hh, o.wd.new⟩⟩

/-- only the iterator's own things have turned -/
theorem own_vars {own : List Addr} {s : Shared} {h : Heap} (o : Ok C env V H s) (w : Owned C env H own) (k : ∀ b x, b ∉ own → s.heap.get? b = some x → h.get? b = some x) : Vars env V h ∧ HasH H h := by
  refine ⟨?_, fun a c e => (o.wd.has a c e).at fun x ex => k a x (fun q => by rw [w.noH a q] at e; cases e) ex⟩
  obtain ⟨⟨m, ⟨ob, es, ep, ho, r⟩, hm⟩, hc⟩ := o.vars
  refine ⟨⟨m, ⟨ob, es, ep, k _ _ (fun q => w.noFr _ q (.inl rfl)) ho, r⟩, hm⟩, fun y c e => ?_⟩
  obtain ⟨v, ⟨ob, ho, hd⟩, e'⟩ := hc y c e
  exact ⟨v, ⟨ob, k _ _ (fun q => w.noFr _ q (.inr ⟨y, e⟩)) ho, hd⟩, e'⟩

inductive TgtOk (env : Env) (X : Addr → Prop) (V : VM) : Expr → IV → VM → Prop
  | one {x : Str} {p : Pos} {v : AV} : kindB env x = true → StX env X x → TgtOk env X V (.Name x p) (.one v) (V.set x v)
  | two {x y : Str} {p q : Pos} {k : Nat} {tp : Pos} {u v : AV} : kindB env x = true → kindB env y = true → StX env X x → StX env X y → TgtOk env X V (.Tuple (namesOf [(x, p), (y, q)]) k tp) (.two u v) ((V.set x u).set y v)

/-- an item drawn, the target set -/
theorem it_item {X : Addr → Prop} (hXF : ∀ b, X b → FrX env b) {I : Addr} {own : List Addr} {it : It} {k : Nat} {iv : IV} {target : Expr} {V' : VM} {s : Shared} {R0 R' : Shared → Prop} (hh : A.handled = none) (o : Ok C env V H s) (w : Owned C env H own) (x : ItCore s.heap I own it k)
    (hi : itemAt H it k = some (some iv)) (ht : TgtOk env X V target iv V')
    (h : ∀ s', Vars env V' s'.heap → HasH H s'.heap → OwnStep X own H s s' → ItCore s'.heap I own it (k + 1) → R' s') :
    wpAny C.M A (pyNext (.ref I)) (fun r s₁ => match r with
      | none => R0 s₁
      | some v => wpAny C.M A (letOwnedTupleGo target (.ref I) v) (fun _ s₁' => wpAny C.M A (assign target env v) (fun _ s₂ => R' s₂) (fun _ _ => False) s₁') (fun _ _ => False) s₁) (fun _ _ => False) s := by
  cases it with
  | list a =>
    obtain ⟨rfl, q⟩ := x
    simp only [itemAt] at hi
    split at hi
    rotate_left
    · cases hi
    rename_i xs hxs
    obtain ⟨vs, ⟨n, hp⟩, hm⟩ := o.wd.has a _ hxs
    have hi := Option.some.inj hi
    obtain ⟨x, hx, rfl⟩ := Option.map_eq_some_iff.mp hi
    rw [← hm, List.getElem?_map] at hx
    obtain ⟨v, hv, rfl⟩ := Option.map_eq_some_iff.mp hx
    refine wpAny_pyNext_list_item q ⟨_, hp, rfl, n, rfl⟩ (x := v) (by simpa using hv) fun h' hit' hs' => ?_
    have kp : ∀ b x, b ∉ [I] → s.heap.get? b = some x → h'.get? b = some x := fun b x hb e => (hs'.2 b (by simpa using hb)).trans e
    obtain ⟨v₁, h₁⟩ := own_vars o w kp
    cases ht with
    | one hk hX =>
      refine wpAny_of_eq (a := ()) rfl (assign_Name (storeX hX (o.own w (.of_keep kp) v₁ h₁) hk fun s₂ v₂ h₂ t₂ => ?_))
      refine h s₂ v₂ h₂ ((OwnStep.of_keep kp).trans (.of_tr t₂)) ⟨rfl, hit'.at fun ob e => t₂.keep _ _ e (w.noH I (by simp)) (fun q => w.noFr I (by simp) (hXF _ q))⟩
  | range a c n =>
    obtain ⟨rfl, hkn, q⟩ := x
    simp only [itemAt] at hi
    split at hi
    rotate_left
    · cases hi
    rename_i hlt
    cases hi
    refine wpAny_pyNext_range_item q (by (first | lia | omega)) fun h' hit' hs' => ?_
    have kp : ∀ b x, b ∉ [I] → s.heap.get? b = some x → h'.get? b = some x := fun b x hb e => (hs'.2 b (by simpa using hb)).trans e
    obtain ⟨v₁, h₁⟩ := own_vars o w kp
    cases ht with
    | one hk hX =>
      refine wpAny_of_eq (a := ()) rfl (assign_Name (storeX hX (o.own w (.of_keep kp) v₁ h₁) hk fun s₂ v₂ h₂ t₂ => ?_))
      refine h s₂ v₂ h₂ ((OwnStep.of_keep kp).trans (.of_tr t₂)) ⟨rfl, by (first | lia | omega), ?_⟩
      have e1 : a + ((k + 1 : Nat) : Int) * c = a + (k : Int) * c + c := by push_cast; rw [Int.add_mul, Int.one_mul, Int.add_assoc]
      have e2 : (n : Int) - ((k + 1 : Nat) : Int) = (n : Int) - (k : Int) - 1 := by push_cast; (first | lia | omega)
      rw [e1, e2]
      exact t₂.keep _ _ hit' (w.noH I (by simp)) (fun q => w.noFr I (by simp) (hXF _ q))
  | enum a =>
    obtain ⟨it, old, rfl, hne, he, q⟩ := x
    simp only [itemAt] at hi
    split at hi
    rotate_left
    · cases hi
    rename_i xs hxs
    obtain ⟨vs, ⟨n, hp⟩, hm⟩ := o.wd.has a _ hxs
    have hi := Option.some.inj hi
    obtain ⟨x, hx, rfl⟩ := Option.map_eq_some_iff.mp hi
    rw [← hm, List.getElem?_map] at hx
    obtain ⟨v, hv, rfl⟩ := Option.map_eq_some_iff.mp hx
    refine wpAny_pyNext_enum_item he q ⟨_, hp, rfl, n, rfl⟩ (x := v) (by simpa using hv) hne fun h' ho hit' hT hsz hk => ?_
    have hTI : s.heap.objs.size ≠ I := Nat.ne_of_gt (Heap.lt_size he)
    cases ht with
    | two hk1 hk2 hX1 hX2 =>
      refine wpAny_letOwnedTupleGo_enum ho fun h'' he' hs' => ?_
      have kp : ∀ b x, b ∉ [I, it] → s.heap.get? b = some x → h''.get? b = some x := fun b x hb e => (hs'.2 b fun z => hb (by simp [z])).trans (hk b x (fun z => hb (by simp [z])) (fun z => hb (by simp [z])) e)
      obtain ⟨v₁, h₁⟩ := own_vars o w kp
      have hT' : h''.IsTuple s.heap.objs.size [Value.int k s.toks, v].toArray := ⟨_, (hs'.2 _ hTI).trans hT, rfl, 0, rfl⟩
      refine assign_pair hXF (by simp [hX1, hX2]) hh (o.own w (.of_keep kp) v₁ h₁) hT' rfl (by simp [hk1, hk2]) fun s₂ v₂ h₂ t₂ => ?_
      refine h s₂ v₂ h₂ ((OwnStep.of_keep kp).trans (.of_tr t₂)) ⟨it, v, rfl, hne, ?_, ?_⟩
      · have := t₂.keep I _ he' (w.noH I (by simp)) (fun q => w.noFr I (by simp) (hXF _ q))
        simpa using this
      · exact hit'.at fun ob e => t₂.keep _ _ ((hs'.2 it (Ne.symm hne)).trans e) (w.noH it (by simp)) (fun q => w.noFr it (by simp) (hXF _ q))
  | zip a b =>
    obtain ⟨TI, TO, i1, i2, u0, v0, rfl, D, hz, hTI, hTO, h1, h2⟩ := x
    simp only [itemAt] at hi
    split at hi
    rotate_left
    · cases hi
    rename_i xs ys hxs hys
    obtain ⟨vs, ⟨n, hp⟩, hm⟩ := o.wd.has a _ hxs
    obtain ⟨us, ⟨n2, hp2⟩, hm2⟩ := o.wd.has b _ hys
    have hi := Option.some.inj hi
    split at hi
    rotate_left
    · cases hi
    rename_i x y hx hy
    cases hi
    rw [← hm, List.getElem?_map] at hx
    rw [← hm2, List.getElem?_map] at hy
    obtain ⟨v, hv, rfl⟩ := Option.map_eq_some_iff.mp hx
    obtain ⟨u, hu, rfl⟩ := Option.map_eq_some_iff.mp hy
    refine wpAny_pyNext_zip_item D hz hTI hTO h1 h2 ⟨_, hp, rfl, n, rfl⟩ ⟨_, hp2, rfl, n2, rfl⟩ (x := v) (y := u) (by simpa using hv) (by simpa using hu) fun h' hz' hTO' h1' h2' hT hsz hk => ?_
    have hTz : s.heap.objs.size ≠ I := Nat.ne_of_gt (Heap.lt_size hz)
    have hTI' : h'.get? TI = some { cls := .type "tuple", data := .seq #[.ref i1, .ref i2] } := hk TI _ D.TIz D.TITO D.TIi1 D.TIi2 hTI
    cases ht with
    | two hk1 hk2 hX1 hX2 =>
      refine wpAny_letOwnedTupleGo_zip hz' fun h'' hz'' hs' => ?_
      have kp : ∀ b x, b ∉ [I, TI, TO, i1, i2] → s.heap.get? b = some x → h''.get? b = some x := fun b x hb e =>
        (hs'.2 b fun z => hb (by simp [z])).trans (hk b x (fun z => hb (by simp [z])) (fun z => hb (by simp [z])) (fun z => hb (by simp [z])) (fun z => hb (by simp [z])) e)
      obtain ⟨v₁, h₁⟩ := own_vars o w kp
      have hT' : h''.IsTuple s.heap.objs.size [v, u].toArray := ⟨_, (hs'.2 _ hTz).trans hT, rfl, 0, rfl⟩
      refine assign_pair hXF (by simp [hX1, hX2]) hh (o.own w (.of_keep kp) v₁ h₁) hT' rfl (by simp [hk1, hk2]) fun s₂ v₂ h₂ t₂ => ?_
      have kk : ∀ b ∈ [I, TI, TO, i1, i2], ∀ o, h''.get? b = some o → s₂.heap.get? b = some o := fun b hb o e => t₂.keep b o e (w.noH b hb) (fun q => w.noFr b hb (hXF _ q))
      refine h s₂ v₂ h₂ ((OwnStep.of_keep kp).trans (.of_tr t₂)) ⟨TI, TO, i1, i2, _, _, rfl, D, kk I (by simp) _ hz'', kk TI (by simp) _ ((hs'.2 _ D.TIz).trans hTI'), kk TO (by simp) _ ((hs'.2 _ D.TOz).trans hTO'),
        h1'.at fun ob e => kk i1 (by simp) _ ((hs'.2 _ D.i1z).trans e), h2'.at fun ob e => kk i2 (by simp) _ ((hs'.2 _ D.i2z).trans e)⟩

/-- the end of the items -/
theorem it_end {I : Addr} {own : List Addr} {it : It} {k : Nat} {s : Shared} {X : Addr → Prop} {R0 : Shared → Prop} {R1 : Value → Shared → Prop} (hh : A.handled = none) (o : Ok C env V H s) (w : Owned C env H own) (x : ItCore s.heap I own it k)
    (hi : itemAt H it k = some none)
    (h : ∀ s', Vars env V s'.heap → HasH H s'.heap → OwnStep X own H s s' → R0 s') :
    wpAny C.M A (pyNext (.ref I)) (fun r s₁ => match r with
      | none => R0 s₁
      | some v => R1 v s₁) (fun _ _ => False) s := by
  have fin : ∀ (h' : Heap) (tk : Nat), (∀ b x, b ∉ own → s.heap.get? b = some x → h'.get? b = some x) → R0 { s with heap := h', toks := tk } := fun h' tk kp =>
    let ⟨v₁, h₁⟩ := own_vars o w kp
    h _ v₁ h₁ (.of_keep kp)
  cases it with
  | list a =>
    obtain ⟨rfl, q⟩ := x
    simp only [itemAt] at hi
    split at hi
    rotate_left
    · cases hi
    rename_i xs hxs
    obtain ⟨vs, ⟨n, hp⟩, hm⟩ := o.wd.has a _ hxs
    have hi := Option.map_eq_none_iff.mp (Option.some.inj hi)
    rw [← hm, List.getElem?_map] at hi
    have hi := Option.map_eq_none_iff.mp hi
    exact wpAny_pyNext_list_end hh q ⟨_, hp, rfl, n, rfl⟩ (by simpa using hi) fun h' he => fin h' s.toks fun b x hb e => he b x (by simpa using hb) e
  | range a c n =>
    obtain ⟨rfl, hkn, q⟩ := x
    simp only [itemAt] at hi
    split at hi
    · cases hi
    rename_i hlt
    exact wpAny_pyNext_range_end hh q (by (first | lia | omega)) fun h' he => fin h' s.toks fun b x hb e => he b x (by simpa using hb) e
  | enum a =>
    obtain ⟨it, old, rfl, hne, he, q⟩ := x
    simp only [itemAt] at hi
    split at hi
    rotate_left
    · cases hi
    rename_i xs hxs
    obtain ⟨vs, ⟨n, hp⟩, hm⟩ := o.wd.has a _ hxs
    have hi := Option.map_eq_none_iff.mp (Option.some.inj hi)
    rw [← hm, List.getElem?_map] at hi
    have hi := Option.map_eq_none_iff.mp hi
    exact wpAny_pyNext_enum_end hh he q ⟨_, hp, rfl, n, rfl⟩ (by simpa using hi) fun h' he => fin h' s.toks fun b x hb e => he b x (fun z => hb (by simp [z])) e
  | zip a b =>
    obtain ⟨TI, TO, i1, i2, u0, v0, rfl, D, hz, hTI, hTO, h1, h2⟩ := x
    simp only [itemAt] at hi
    split at hi
    rotate_left
    · cases hi
    rename_i xs ys hxs hys
    obtain ⟨vs, ⟨n, hp⟩, hm⟩ := o.wd.has a _ hxs
    obtain ⟨us, ⟨n2, hp2⟩, hm2⟩ := o.wd.has b _ hys
    have hi := Option.some.inj hi
    have hend : vs.toArray[k]? = none ∨ us.toArray[k]? = none := by
      rw [← hm, ← hm2, List.getElem?_map, List.getElem?_map] at hi
      cases e1 : vs[k]? with
      | none => exact .inl (by simpa using e1)
      | some x =>
        cases e2 : us[k]? with
        | none => exact .inr (by simpa using e2)
        | some y => rw [e1, e2] at hi; cases hi
    exact wpAny_pyNext_zip_end hh D hz hTI hTO h1 h2 ⟨_, hp, rfl, n, rfl⟩ ⟨_, hp2, rfl, n2, rfl⟩ hend fun h' he => fin h' s.toks fun b x hb e =>
      he b x (fun z => hb (by simp [z])) (fun z => hb (by simp [z])) (fun z => hb (by simp [z])) (fun z => hb (by simp [z])) e
end


section
variable {C : Cx} {A : Around} {env : Env} {V : VM} {H : AH}

theorem XJ.while_ {Q : AF → VM → AH → Prop} {test : Expr} {body : List Stmt} {pos : Pos} (n : Nat) (I : Nat → VM → AH → Prop) (h0 : I n V H)
    (h : ∀ k V' H', I k V' H' → TJ C A env V' H' test fun b H₁ => if b then SJ C A env V' H₁ body fun fl V₂ H₂ => match fl with
        | .next | .cont => ∃ m, m < k ∧ I m V₂ H₂
        | .brk => Q .next V₂ H₂
        | .ret v => Q (.ret v) V₂ H₂
      else Q .next V' H₁) : XJ C A env V H (.While test body [] pos) Q := fun s₀ o₀ => by
  refine wpAny_While (codeAny_whileLoop (fun k s => ∃ V' H', I k V' H' ∧ Vars env V' s.heap ∧ HasH H' s.heap ∧ Tr (FrX env) H s₀ H' s) (fun k s => ?_) n ⟨V, H, h0, o₀.vars, o₀.wd.has, Tr.refl⟩)
  rintro ⟨V', H', hI, v', h', t'⟩
  have o' := o₀.trS v' h' t'
  refine wpAny_mono (h k V' H' hI s o') (fun b s₁ hb => ?_) fun _ _ e => e.elim
  obtain ⟨H₁, q, h₁, t₁⟩ := hb
  cases b with
  | false => exact wpAny_execs_nil ⟨V', H₁, q, v'.tr h' t₁, h₁, t'.trans t₁.toX⟩
  | true =>
    refine wpAny_mono (q s₁ (o'.tr h₁ t₁)) (fun fl s₂ hf => ?_) fun _ _ e => e.elim
    obtain ⟨V₂, H₂, q₂, v₂, h₂, t₂⟩ := hf
    have t := t'.trans (t₁.toX.trans t₂)
    cases fl with
    | next => obtain ⟨m, hm, hI'⟩ := q₂; exact ⟨m, hm, V₂, H₂, hI', v₂, h₂, t⟩
    | cont => obtain ⟨m, hm, hI'⟩ := q₂; exact ⟨m, hm, V₂, H₂, hI', v₂, h₂, t⟩
    | brk => exact ⟨V₂, H₂, q₂, v₂, h₂, t⟩
    | ret v => exact ⟨V₂, H₂, q₂, v₂, h₂, t⟩

/-- an iterable expression: evaluated, its iterator made -/
noncomputable def IJ (C : Cx) (A : Around) (env : Env) (V : VM) (H : AH) (e : Expr) (Q : It → AH → Prop) : Prop :=
  ∀ s, Ok C env V H s → wpAny C.M A (eval e env) (fun x s₁ => wpAny C.M A (pyIter x) (fun iv s₂ => ∃ it H', Q it H' ∧ HasH H' s₂.heap ∧ Tr NoX H s H' s₂ ∧
    ∃ I own, iv = .ref I ∧ ItCore s₂.heap I own it 0 ∧ (∀ b ∈ own, s.heap.get? b = none ∧ H' b = none)) (fun _ _ => False) s₁) (fun _ _ => False) s

theorem ItCore.alive {h : Heap} {I : Addr} {own : List Addr} {it : It} {k : Nat} (x : ItCore h I own it k) : ∀ b ∈ own, h.get? b ≠ none := by
  intro b hb
  cases it with
  | list a => obtain ⟨rfl, o, ho, _⟩ := x; rw [List.mem_singleton.mp hb, ho]; exact fun z => nomatch z
  | range a c n => obtain ⟨rfl, _, ho⟩ := x; rw [List.mem_singleton.mp hb, ho]; exact fun z => nomatch z
  | enum a =>
    obtain ⟨it, old, rfl, hne, q, o, ho, _⟩ := x
    simp only [List.mem_cons, List.not_mem_nil, or_false] at hb
    rcases hb with rfl | rfl
    · rw [q]; exact fun z => nomatch z
    · rw [ho]; exact fun z => nomatch z
  | zip a b =>
    obtain ⟨TI, TO, i1, i2, u, v, rfl, D, hz, h1, h2, ⟨o3, h3, _⟩, o4, h4, _⟩ := x
    simp only [List.mem_cons, List.not_mem_nil, or_false] at hb
    rcases hb with rfl | rfl | rfl | rfl | rfl
    · rw [hz]; exact fun z => nomatch z
    · rw [h1]; exact fun z => nomatch z
    · rw [h2]; exact fun z => nomatch z
    · rw [h3]; exact fun z => nomatch z
    · rw [h4]; exact fun z => nomatch z

theorem fresh_fr {s : Shared} (o : Ok C env V H s) {b : Addr} (e : s.heap.get? b = none) : ¬ FrX env b := by
  rintro (rfl | ⟨x, hx⟩)
  · obtain ⟨m, ⟨ob, es, ep, ho, _⟩, _⟩ := o.vars.loc
    rw [e] at ho; cases ho
  · obtain ⟨v, ⟨ob, ho, _⟩, _⟩ := o.vars.cell x b hx
    rw [e] at ho; cases ho

theorem XJ.for_ {Q : AF → VM → AH → Prop} {target iter : Expr} {body : List Stmt} {pos : Pos} (hh : A.handled = none)
    (h : IJ C A env V H iter fun it H₁ => ∃ (n : Nat) (I : Nat → VM → AH → Prop), I 0 V H₁ ∧
      (∀ k V' H', k < n → I k V' H' → ∃ iv V₁, itemAt H' it k = some (some iv) ∧ TgtOk env (FrX env) V' target iv V₁ ∧ SJ C A env V₁ H' body fun fl V₂ H₂ => match fl with
        | .next | .cont => I (k + 1) V₂ H₂
        | .brk => Q .next V₂ H₂
        | .ret v => Q (.ret v) V₂ H₂) ∧
      (∀ V' H', I n V' H' → itemAt H' it n = some none ∧ Q .next V' H'))
    (hs : ∀ x, foldedSetIterable iter env x = pure x) : XJ C A env V H (.For target iter body [] pos) Q := fun s₀ o₀ => by
  refine wpAny_For (wpAny_mono (h s₀ o₀) (fun x s₁ h₁ => wpAny_mono h₁ (fun iv s₂ h₂ => ?_) fun _ _ e => e) fun _ _ e => e) hs
  obtain ⟨it, H₁, ⟨n, I, hI0, hstep, hend⟩, hh₁, t₁, Ia, own, rfl, hcore, hown⟩ := h₂
  have hfr : ∀ b ∈ own, ¬ FrX env b := fun b hb => fresh_fr o₀ (hown b hb).1
  have hnew : ∀ b ∈ own, C.hb.get? b = none := fun b hb => by
    cases q : C.hb.get? b with
    | none => rfl
    | some x => have := o₀.wd.keep b x q; rw [(hown b hb).1] at this; cases this
  refine codeAny_forLoop_any (fun m s => ∃ k V' H', m = n + 1 - k ∧ k ≤ n ∧ I k V' H' ∧ Vars env V' s.heap ∧ HasH H' s.heap ∧ Tr (FrX env) H s₀ H' s ∧ ItCore s.heap Ia own it k ∧ ∀ b ∈ own, H' b = none) (fun m s => ?_) (n + 1)
    ⟨0, V, H₁, rfl, Nat.zero_le _, hI0, o₀.vars.tr o₀.wd.has t₁, hh₁, t₁.toX, hcore, fun b hb => (hown b hb).2⟩
  rintro ⟨k, V', H', rfl, hk, hI, v', h', t', core', hno⟩
  have o' := o₀.trS v' h' t'
  have w' : Owned C env H' own := ⟨hno, hnew, hfr⟩
  by_cases hkn : k < n
  · obtain ⟨iv, V₁, hi, ht, hbody⟩ := hstep k V' H' hkn hI
    refine wpAny_mono (it_item (X := FrX env) (fun _ q => q) (R0 := fun _ => False) (R' := fun s₃ => Vars env V₁ s₃.heap ∧ HasH H' s₃.heap ∧ OwnStep (FrX env) own H' s s₃ ∧ ItCore s₃.heap Ia own it (k + 1)) hh o' w' core' hi ht
      fun s' a b c d => ⟨a, b, c, d⟩) (fun r s₃ hr => ?_) fun _ _ e => e.elim
    cases r with
    | none => exact hr.elim
    | some v =>
      refine wpAny_mono hr (fun _ s₄ h₄ => wpAny_mono h₄ (fun _ s₅ h₅ => ?_) fun _ _ e => e.elim) fun _ _ e => e.elim
      obtain ⟨v₅, h₅, y₅, c₅⟩ := h₅
      have o₅ := o'.own w' y₅ v₅ h₅
      refine wpAny_mono (hbody s₅ o₅) (fun fl s₆ hf => ?_) fun _ _ e => e.elim
      obtain ⟨V₂, H₂, q₂, v₂, h₂, t₂⟩ := hf
      have t := (t'.own y₅ fun b hb => (hown b hb).1).trans t₂
      have own₂ : ∀ b ∈ own, H₂ b = none := fun b hb => by
        cases q : H₂ b with
        | none => rfl
        | some c =>
          have e := t₂.dom b (hno b hb) (by rw [q]; exact fun z => nomatch z)
          exact absurd e (c₅.alive b hb)
      have core₂ : ItCore s₆.heap Ia own it (k + 1) := c₅.at fun b hb o e => t₂.keep b o e (hno b hb) (hfr b hb)
      cases fl with
      | next => exact ⟨n + 1 - (k + 1), by (first | lia | omega), k + 1, V₂, H₂, rfl, hkn, q₂, v₂, h₂, t, core₂, own₂⟩
      | cont => exact ⟨n + 1 - (k + 1), by (first | lia | omega), k + 1, V₂, H₂, rfl, hkn, q₂, v₂, h₂, t, core₂, own₂⟩
      | brk => exact ⟨V₂, H₂, q₂, v₂, h₂, t⟩
      | ret v => exact ⟨V₂, H₂, q₂, v₂, h₂, t⟩
  · have hkn : k = n := by (first | lia | omega)
    subst hkn
    obtain ⟨hi, q⟩ := hend V' H' hI
    refine wpAny_mono (it_end (X := FrX env) (R0 := fun s₃ => Vars env V' s₃.heap ∧ HasH H' s₃.heap ∧ OwnStep (FrX env) own H' s s₃) (R1 := fun _ _ => False) hh o' w' core' hi fun s' a b c => ⟨a, b, c⟩) (fun r s₃ hr => ?_) fun _ _ e => e.elim
    cases r with
    | some v => exact hr.elim
    | none =>
      obtain ⟨v₃, h₃, y₃⟩ := hr
      exact wpAny_execs_nil ⟨V', H', q, v₃, h₃, t'.own y₃ fun b hb => (hown b hb).1⟩
end


section
variable {C : Cx} {A : Around} {env : Env} {V : VM} {H : AH}

theorem it_self {s : Shared} {I : Addr} {own : List Addr} {it : It} {k : Nat} {Q : Value → Shared → Prop} {E : Value → Shared → Prop} (x : ItCore s.heap I own it k) (h : Q (.ref I) s) : wpAny C.M A (pyIter (.ref I)) Q E s := by
  cases it with
  | list a => exact wpAny_pyIter_listiter x.2 h
  | range a c n => exact wpAny_pyIter_rangeiter x.2.2 h
  | enum a => obtain ⟨it, old, _, _, q, _⟩ := x; exact wpAny_pyIter_enum q h
  | zip a b => obtain ⟨_, _, _, _, _, _, _, _, hz, _⟩ := x; exact wpAny_pyIter_zip hz h

theorem compLoop_any {prog : Program} {w : World} {A : Around} {R : Result → Shared → Prop} {s : Shared} {elt target iter : Expr} {scope : Scope} {pos : Pos} {it acc : Value} {env : Env} (I : Nat → Shared → Prop)
    (turn : ∀ n s, I n s → wpAny (model prog w) A (pyNext it) (fun r s₁ => match r with
      | none => R (.ok .next) s₁
      | some v => wpAny (model prog w) A (letOwnedTupleGo target it v) (fun _ s₁' => wpAny (model prog w) A (assign target env v) (fun _ s₂ => wpAny (model prog w) A (eval elt env) (fun x s₃ =>
          wpAny (model prog w) A (call (.builtin "list.append") [acc, x]) (fun _ s₄ => ∃ m, m < n ∧ I m s₄) (fun _ _ => False) s₃)
          (fun _ _ => False) s₂) (fun _ _ => False) s₁') (fun _ _ => False) s₁) (fun _ _ => False) s)
    (n : Nat) (h : I n s) :
    codeAny (model prog w) A (.compLoop (.ListComp elt [⟨target, iter, [], 0⟩] scope pos) 0 it acc env) R s := by
  refine codeAny_loop rfl I (fun n s hI => ?_) n h
  show wpAny _ _ ((compTurn (.ListComp elt [⟨target, iter, [], 0⟩] scope pos) 0 it acc env).onRaise (fun x => do noteFrame x env; theTreesLotGoes x)) _ _ s
  refine wpAny_noted ?_
  rw [compTurn_list1]
  refine wpAny_bind (wpAny_standAt (wpAny_bind (wpAny_mono (turn n s hI) (fun r s₁ h₁ => ?_) fun _ _ e => e.elim)))
  cases r with
  | none => exact wpAny_pure h₁
  | some v =>
    refine wpAny_bind (wpAny_mono h₁ (fun _ s₁' h₁' => ?_) fun _ _ e => e.elim)
    refine wpAny_bind (wpAny_mono h₁' (fun _ s₂ h₂ => ?_) fun _ _ e => e.elim)
    refine wpAny_bind (wpAny_bind (wpAny_mono h₂ (fun x s₃ h₃ => ?_) fun _ _ e => e.elim))
    exact wpAny_bind (wpAny_mono h₃ (fun _ s₄ h₄ => wpAny_pure (wpAny_pure ⟨rfl, h₄⟩)) fun _ _ e => e.elim)

/-- the loop of a comprehension, from where its frame stands -/
theorem comp_loop {elt target iter : Expr} {scope : Scope} {pos : Pos} {cl : List (Str × Addr)} {s₀ s : Shared} {D L I₀ : Addr} {own : List Addr} {it : It} {H₁ : AH} {R : Result → Shared → Prop} {Q : AV → AH → Prop} (hh : A.handled = none)
    (n : Nat) (I : Nat → List AV → AH → Prop) (hn : n ≤ sizeLine) (h0 : I 0 [] H₁)
    (hstep : ∀ k ys H', k < n → I k ys H' → ∃ iv, itemAt H' it k = some (some iv) ∧ ∀ Vk, (∀ x, (compEnvC scope cl L env).kindOf x = some .cell → Vk x = V x) →
      ∃ V₁, TgtOk (compEnvC scope cl L env) (LocX (compEnvC scope cl L env)) Vk target iv V₁ ∧ (∀ x, (compEnvC scope cl L env).kindOf x = some .cell → V₁ x = V x) ∧ EJ C A (compEnvC scope cl L env) V₁ H' elt fun v H₂ => I (k + 1) (ys ++ [v]) H₂)
    (hend : ∀ ys H', I n ys H' → itemAt H' it n = some none ∧ ∀ a, H' a = none → Q (.ref a) (H'.set a (.list ys)))
    (eo : EnvOk C (compEnvC scope cl L env)) (wd : Wd C H₁ s) (v0 : Vars (compEnvC scope cl L env) (fun x => if (compEnvC scope cl L env).kindOf x = some .cell then V x else none) s.heap) (t0 : Tr NoX H s₀ H₁ s)
    (core : ItCore s.heap I₀ own it 0) (hown : ∀ b ∈ own, s₀.heap.get? b = none ∧ H₁ b = none ∧ C.hb.get? b = none ∧ ¬ FrX (compEnvC scope cl L env) b)
    (hD : s.heap.PlainList D #[] ∧ s₀.heap.get? D = none ∧ C.hb.get? D = none ∧ H₁ D = none ∧ ¬ FrX (compEnvC scope cl L env) D ∧ D ∉ own) (hL : s₀.heap.get? L = none)
    (hR : ∀ s' H', HasH H' s'.heap → Tr NoX H s₀ H' s' → Q (.ref D) H' → (∃ m, s'.heap.Ns L m) → R (.ok .next) s') :
    codeAny C.M A (.compLoop (.ListComp elt [⟨target, iter, [], 0⟩] scope pos) 0 (.ref I₀) (.ref D) (compEnvC scope cl L env)) R s := by
  obtain ⟨hD1, hD2, hD3, hD4, hD5, hD6⟩ := hD
  have hLF : ∀ b, LocX (compEnvC scope cl L env) b → FrX (compEnvC scope cl L env) b := fun b q => .inl q
  have hDL : D ≠ L := fun q => hD5 (.inl q)
  refine compLoop_any (fun m s => ∃ k ys H' Vk vs, m = n + 1 - k ∧ k ≤ n ∧ I k ys H' ∧ (∀ x, (compEnvC scope cl L env).kindOf x = some .cell → Vk x = V x) ∧ Vars (compEnvC scope cl L env) Vk s.heap ∧ Wd C H' s ∧
      Tr (LocX (compEnvC scope cl L env)) H s₀ H' s ∧ ItCore s.heap I₀ own it k ∧ (∀ b ∈ own, H' b = none) ∧ H' D = none ∧ s.heap.PlainList D vs.toArray ∧ vs.map er = ys ∧ vs.length = k) (fun m s => ?_) (n + 1)
    ⟨0, [], H₁, _, [], rfl, Nat.zero_le _, h0, fun x hx => if_pos hx, v0, wd, t0.toX, core, fun b hb => (hown b hb).2.1, hD4, hD1, rfl, rfl⟩
  rintro ⟨k, ys, H', Vk, vs, rfl, hk, hI, hVk, vk, wd', t', core', hno, hDn, hDl, rfl, hlen⟩
  have w' : Owned C (compEnvC scope cl L env) H' own := ⟨hno, fun b hb => (hown b hb).2.2.1, fun b hb => (hown b hb).2.2.2⟩
  have o' : Ok C (compEnvC scope cl L env) Vk H' s := ⟨eo, vk, wd'⟩
  by_cases hkn : k < n
  · obtain ⟨iv, hi, hturn⟩ := hstep k _ H' hkn hI
    obtain ⟨V₁, ht, hV₁, helt⟩ := hturn Vk hVk
    refine wpAny_mono (it_item (X := LocX (compEnvC scope cl L env)) hLF (R0 := fun _ => False) (R' := fun s₃ => Vars (compEnvC scope cl L env) V₁ s₃.heap ∧ HasH H' s₃.heap ∧ OwnStep (LocX (compEnvC scope cl L env)) own H' s s₃ ∧ ItCore s₃.heap I₀ own it (k + 1)) hh o' w' core' hi ht
      fun s' a b c d => ⟨a, b, c, d⟩) (fun r s₃ hr => ?_) fun _ _ e => e.elim
    cases r with
    | none => exact hr.elim
    | some v =>
      refine wpAny_mono hr (fun _ s₄ h₄ => wpAny_mono h₄ (fun _ s₅ h₅ => ?_) fun _ _ e => e.elim) fun _ _ e => e.elim
      obtain ⟨v₅, h₅, y₅, c₅⟩ := h₅
      have o₅ := o'.own w' (y₅.mono hLF) v₅ h₅
      have t₅ : Tr (LocX (compEnvC scope cl L env)) H s₀ H' s₅ := t'.own y₅ fun b hb => (hown b hb).1
      have hDl₅ : s₅.heap.PlainList D vs.toArray := hDl.at fun ob e => y₅.keep D ob e hD6 hDn fun q => hD5 (.inl q)
      refine wpAny_mono (helt s₅ o₅) (fun x s₆ hx => ?_) fun _ _ e => e.elim
      obtain ⟨H₂, q₂, h₂, t₂⟩ := hx
      have alive_none : ∀ b, H' b = none → s₅.heap.get? b ≠ none → H₂ b = none := fun b hb ha => by
        cases q : H₂ b with
        | none => rfl
        | some c => exact absurd (t₂.dom b hb (by rw [q]; exact fun z => nomatch z)) ha
      have own₂ : ∀ b ∈ own, H₂ b = none := fun b hb => alive_none b (hno b hb) (c₅.alive b hb)
      have hDn₂ : H₂ D = none := alive_none D hDn (by obtain ⟨_, e⟩ := hDl₅; rw [e]; exact fun z => nomatch z)
      have hDl₆ : s₆.heap.PlainList D vs.toArray := hDl₅.at fun ob e => t₂.keep D ob e hDn fun q => q
      have o₆ := o₅.tr h₂ t₂
      refine wpAny_list_append_plain hDl₆ (fun h' hpl hs' => ?_) (by rw [List.size_toArray, hlen]; (first | lia | omega))
      have kp : ∀ b x, b ∉ [D] → s₆.heap.get? b = some x → h'.get? b = some x := fun b x hb e => (hs'.2 b (by simpa using hb)).trans e
      have wD : Owned C (compEnvC scope cl L env) H₂ [D] := ⟨fun b hb => by rw [List.mem_singleton.mp hb]; exact hDn₂, fun b hb => by rw [List.mem_singleton.mp hb]; exact hD3, fun b hb => by rw [List.mem_singleton.mp hb]; exact hD5⟩
      obtain ⟨v₇, h₇⟩ := own_vars o₆ wD kp
      have o₇ := o₆.own wD (.of_keep kp) (s₁ := { s₆ with heap := h' }) v₇ h₇
      have core₆ : ItCore s₆.heap I₀ own it (k + 1) := c₅.at fun b hb o e => t₂.keep b o e (hno b hb) fun q => q
      refine ⟨n + 1 - (k + 1), by (first | lia | omega), k + 1, _, H₂, V₁, vs ++ [x], rfl, hkn, q₂, hV₁, v₇, o₇.wd, ?_, core₆.at fun b hb o e => kp b o (fun q => hD6 (List.mem_singleton.mp q ▸ hb)) e, own₂, hDn₂, by simpa using hpl, by simp, by simp [hlen]⟩
      exact (t₅.trans t₂.toX).own (.of_keep kp) fun b hb => by rw [List.mem_singleton.mp hb]; exact hD2
  · have hkn : k = n := by (first | lia | omega)
    subst hkn
    obtain ⟨hi, q⟩ := hend _ H' hI
    refine wpAny_mono (it_end (X := NoX) (R0 := fun s₃ => Vars (compEnvC scope cl L env) Vk s₃.heap ∧ HasH H' s₃.heap ∧ OwnStep NoX own H' s s₃) (R1 := fun _ _ => False) hh o' w' core' hi fun s' a b c => ⟨a, b, c⟩) (fun r s₃ hr => ?_) fun _ _ e => e.elim
    cases r with
    | some v => exact hr.elim
    | none =>
      obtain ⟨v₃, h₃, y₃⟩ := hr
      have t₃ : Tr NoX H s₀ H' s₃ := (t'.own (y₃.mono fun _ q => q.elim) fun b hb => (hown b hb).1).drop fun b q => by rw [show b = L from q]; exact hL
      have hDl₃ : s₃.heap.PlainList D vs.toArray := hDl.at fun ob e => y₃.keep D ob e hD6 hDn fun q => q
      obtain ⟨m, hns, _⟩ := v₃.loc
      refine hR s₃ (H'.set D (.list (vs.map er))) (h₃.set (fun _ _ _ e => e) ⟨vs, hDl₃, rfl⟩) ?_ (q D hDn) ⟨m, hns⟩
      refine ⟨t₃.same, fun b o e h1 h2 => t₃.keep b o e h1 h2, fun b h1 h2 => ?_, t₃.alive⟩
      by_cases hb : b = D
      · rw [hb]; exact hD2
      · rw [AH.set_ne hb] at h2; exact t₃.dom b h1 h2
end


section
variable {C : Cx} {A : Around} {env : Env} {V : VM} {H : AH}

/-- what is asked of a comprehension -/
noncomputable def CompJ (C : Cx) (A : Around) (env : Env) (V : VM) (H : AH) (elt target iter : Expr) (scope : Scope) (cl : List (Str × Addr)) (Q : AV → AH → Prop) : Prop :=
  IJ C A env V H iter fun it H₁ => ∃ (n : Nat) (I : Nat → List AV → AH → Prop), n ≤ sizeLine ∧ I 0 [] H₁ ∧
    (∀ L k ys H', k < n → I k ys H' → ∃ iv, itemAt H' it k = some (some iv) ∧ ∀ Vk, (∀ x, (compEnvC scope cl L env).kindOf x = some .cell → Vk x = V x) →
      ∃ V₁, TgtOk (compEnvC scope cl L env) (LocX (compEnvC scope cl L env)) Vk target iv V₁ ∧ (∀ x, (compEnvC scope cl L env).kindOf x = some .cell → V₁ x = V x) ∧ EJ C A (compEnvC scope cl L env) V₁ H' elt fun v H₂ => I (k + 1) (ys ++ [v]) H₂) ∧
    (∀ ys H', I n ys H' → itemAt H' it n = some none ∧ ∀ a, H' a = none → Q (.ref a) (H'.set a (.list ys)))

structure CompOk (env : Env) (scope : Scope) (cl : List (Str × Addr)) : Prop where
  clos : closureFor scope env = pure cl
  sub : ∀ n c, cl.lookup n = some c → env.cells.lookup n = some c ∧ env.kindOf n = some .cell
  apart : cl.Pairwise fun x y => x.2 ≠ y.2
  has : ∀ n, (relabel scope env).names.lookup n = some .cell → ∃ c, cl.lookup n = some c
  cell : ∀ y ∈ scope.names, y.2 ≠ .cell
  kind : scope.kind = .function
  names : ∀ x ∈ scope.names, x.2 = .local → scope.names.lookup x.1 = some .local

/-- a comprehension's block, for whatever is done with the list -/
theorem comp_block {elt target iter : Expr} {scope : Scope} {pos : Pos} {cl : List (Str × Addr)} {Q : AV → AH → Prop} {s₀ : Shared} {use : Option (Value → Sem Unit)} {P : Value → Shared → Prop} (hh : A.handled = none) (o₀ : Ok C env V H s₀) (K : CompOk env scope cl)
    (hs : ∀ x, foldedSetIterable iter env x = pure x)
    (h : CompJ C A env V H elt target iter scope cl Q)
    (hP : ∀ D L s' H', HasH H' s'.heap → Tr NoX H s₀ H' s' → Q (.ref D) H' → (∃ m, s'.heap.Ns L m) → s₀.heap.get? L = none → compPost C.M A (fun _ _ => False) use P (.ref D) L (.ok .next) s') :
    wpAny C.M A (comprehension (.ListComp elt [⟨target, iter, [], 0⟩] scope pos) scope env (firstIterPos [⟨target, iter, [], 0⟩] pos) (newList []) false (eval iter env) use) P (fun _ _ => False) s₀ := by
  refine wpAny_comprehension_free (use := use) rfl hs K.clos K.kind K.names (wpAny_mono (h s₀ o₀) (fun x s₁ h₁ => wpAny_mono h₁ (fun iv s₂ h₂ => ?_) fun _ _ e => e) fun _ _ e => e)
  obtain ⟨it, H₁, ⟨n, I, hn, hI0, hstep, hend⟩, hh₂, t₂, I₀, own, rfl, core, hown⟩ := h₂
  have o₂ := o₀.tr hh₂ t₂
  refine wpAny_newObj_type (wpAny_newFunctionEnv K.cell (by intro y hy; simp at hy) (fun h₄ hns₄ hsb₄ => ?_) K.kind) (by size_fits)
  dsimp only at hns₄ hsb₄ ⊢
  -- the list's place D, the frame's place L
  generalize hH3 : s₂.heap.push { cls := .type "list", dict := none, data := .seq ([] : List Value).toArray } = H3 at hns₄ hsb₄ ⊢
  have hDd : s₂.heap.objs.size = s₂.heap.objs.size := rfl
  have hLsz : H3.objs.size = s₂.heap.objs.size + 1 := by rw [← hH3, Heap.size_push]
  have kp : ∀ b x, s₂.heap.get? b = some x → h₄.get? b = some x := fun b x e =>
    (hsb₄.2 b (by rw [hLsz]; exact Nat.ne_of_lt (Nat.lt_succ_of_lt (Heap.lt_size e)))).trans (Heap.get?_push_of_some _ (hH3 ▸ Heap.get?_push_of_some _ e))
  have hnone₂ : s₂.heap.get? s₂.heap.objs.size = none := Heap.fresh _
  have hnoneL₂ : s₂.heap.get? H3.objs.size = none := by
    cases q : s₂.heap.get? H3.objs.size with
    | none => rfl
    | some x => have := Heap.lt_size q; rw [hLsz] at this; exact absurd this (Nat.not_lt.mpr (Nat.le_succ _))
  have hD0 : s₀.heap.get? s₂.heap.objs.size = none := t₂.alive _ hnone₂
  have hL0 : s₀.heap.get? H3.objs.size = none := t₂.alive _ hnoneL₂
  have hbD : C.hb.get? s₂.heap.objs.size = none := by
    cases q : C.hb.get? s₂.heap.objs.size with
    | none => rfl
    | some x => rw [o₂.wd.keep _ x q] at hnone₂; cases hnone₂
  have hbL : C.hb.get? H3.objs.size = none := by
    cases q : C.hb.get? H3.objs.size with
    | none => rfl
    | some x => rw [o₂.wd.keep _ x q] at hnoneL₂; cases hnoneL₂
  have hDl : h₄.PlainList s₂.heap.objs.size #[] := ⟨0, (hsb₄.2 _ (by rw [hLsz]; exact Nat.ne_of_lt (Nat.lt_succ_self _))).trans (Heap.get?_push_of_some _ (hH3 ▸ Heap.get?_push_size _ rfl))⟩
  have cell_alive : ∀ n c, cl.lookup n = some c → ∃ v, s₂.heap.IsCell c v ∧ (env.kindOf n = some .cell → v.map er = V n) := fun n c hc => o₂.vars.cell n c (K.sub n c hc).1
  have noFr : ∀ b, s₀.heap.get? b = none → b ≠ H3.objs.size → ¬ FrX (compEnvC scope cl H3.objs.size env) b := fun b hb hL hX => by
    rcases hX with q | ⟨y, q⟩
    · exact hL q
    · obtain ⟨v, ⟨ob, ho, _⟩, _⟩ := o₀.vars.cell y b (K.sub y b q).1
      rw [hb] at ho; cases ho
  have eo : EnvOk C (compEnvC scope cl H3.objs.size env) :=
    ⟨K.kind, o₀.eo.glob, o₀.eo.blt, hbL, fun n c hc => o₀.eo.cellNew n c (K.sub n c hc).1, K.apart, (fun n c hc q => by
      obtain ⟨v, ⟨ob, ho, _⟩, _⟩ := cell_alive n c hc
      rw [q] at ho
      have := hnoneL₂
      rw [show (compEnvC scope cl H3.objs.size env).locals = H3.objs.size from rfl] at ho
      rw [ho] at this; cases this), fun n hn => K.has n hn⟩
  have t₄ : Tr NoX H s₀ H₁ { s₂ with heap := h₄, toks := s₂.toks + ([] : List (Str × Value)).length } := t₂.trans (Tr.grow kp)
  have hh₄ : HasH H₁ h₄ := hh₂.keep kp
  have wd₄ : Wd C H₁ { s₂ with heap := h₄, toks := s₂.toks + ([] : List (Str × Value)).length } := o₀.wd.trE hh₄ t₄
  have v₄ : Vars (compEnvC scope cl H3.objs.size env) (fun x => if (compEnvC scope cl H3.objs.size env).kindOf x = some .cell then V x else none) h₄ := by
    refine ⟨⟨_, hns₄, fun x hx => ?_⟩, fun x c hc => ?_⟩
    · rw [if_neg (by rw [hx]; exact fun q => nomatch q)]; rfl
    · obtain ⟨v, hv, e⟩ := cell_alive x c hc
      exact ⟨v, hv.keeps kp, fun hx => by rw [if_pos hx]; exact e (K.sub x c hc).2⟩
  have hown' : ∀ b ∈ own, s₀.heap.get? b = none ∧ H₁ b = none ∧ C.hb.get? b = none ∧ ¬ FrX (compEnvC scope cl H3.objs.size env) b := fun b hb => by
    have ha := core.alive b hb
    refine ⟨(hown b hb).1, (hown b hb).2, ?_, noFr b (hown b hb).1 fun q => by rw [q] at ha; exact ha hnoneL₂⟩
    cases q : C.hb.get? b with
    | none => rfl
    | some x => have := o₀.wd.keep b x q; rw [(hown b hb).1] at this; cases this
  have hDown : s₂.heap.objs.size ∉ own := fun q => core.alive _ q hnone₂
  have loop := comp_loop (elt := elt) (target := target) (iter := iter) (pos := pos) (R := compPost C.M A (fun _ _ => False) use P (.ref s₂.heap.objs.size) H3.objs.size) (Q := Q)
    (s := { s₂ with heap := h₄, toks := s₂.toks + ([] : List (Str × Value)).length }) hh n I hn hI0 (hstep H3.objs.size) hend eo wd₄ v₄ t₄ (core.at fun b _ o e => kp b o e) hown'
    ⟨hDl, hD0, hbD, hh₂.none_new hnone₂, noFr _ hD0 (by rw [hLsz]; exact Nat.ne_of_lt (Nat.lt_succ_self _)), hDown⟩ hL0 fun s' H' a b c d => hP _ _ s' H' a b c d hL0
  exact codeAny_compStart_list loop (it_self (C := C) (core.at fun b _ o e => kp b o e) loop)

theorem EJ.comp {elt target iter : Expr} {scope : Scope} {pos : Pos} {cl : List (Str × Addr)} {Q : AV → AH → Prop} (hh : A.handled = none) (K : CompOk env scope cl) (hs : ∀ x, foldedSetIterable iter env x = pure x)
    (h : CompJ C A env V H elt target iter scope cl Q) : EJ C A env V H (.ListComp elt [⟨target, iter, [], 0⟩] scope pos) Q := fun s₀ o₀ => by
  rw [eval_ListComp]
  refine comp_block (use := none) hh o₀ K hs h fun D L s' H' h' t' q hns hL => ?_
  obtain ⟨m, hns⟩ := hns
  refine ⟨m, hns, fun h'' hs'' => ?_⟩
  have hLn : H' L = none := h'.not_ns hns
  have hLne : (h''.get? L).isSome ∨ h''.get? L = none := by cases h''.get? L <;> simp
  refine ⟨H', q, fun a c e => (h' a c e).at fun ob eb => (hs''.2 a fun z => by rw [z, hLn] at e; cases e).trans eb, ?_⟩
  obtain ⟨⟨h1, tk1, rfl⟩, k1, d1, a1⟩ := t'
  refine ⟨⟨h'', tk1, rfl⟩, fun b o e x y => (hs''.2 b fun z => by rw [z, hL] at e; cases e).trans (k1 b o e x y), d1, fun b e => ?_⟩
  by_cases z : b = L
  · rw [z]; exact hL
  · exact a1 b ((hs''.2 b z).symm.trans e)

/-- x = [..]: the list is stored ahead of the letting go -/
theorem XJ.assignComp {elt target iter : Expr} {scope : Scope} {pos spos py : Pos} {y : Str} {cl : List (Str × Addr)} {Q : AF → VM → AH → Prop} (hh : A.handled = none) (K : CompOk env scope cl) (hs : ∀ x, foldedSetIterable iter env x = pure x)
    (hsw : swapsWith (.ListComp elt [⟨target, iter, [], 0⟩] scope pos) (some (.Name y py)) spos.line env = pure true) (hk : kindB env y = true)
    (h : CompJ C A env V H elt target iter scope cl fun v H₁ => Q .next (V.set y v) H₁) : XJ C A env V H (.Assign [.Name y py] (.ListComp elt [⟨target, iter, [], 0⟩] scope pos) spos) Q := fun s₀ o₀ => by
  rw [exec_Assign_Name_used _ _ _ _ hsw]
  refine wpAny_bind (wpAny_standAt (wpAny_bind ?_))
  show wpAny _ A (do let _ ← comprehension (.ListComp elt [⟨target, iter, [], 0⟩] scope pos) scope env _ (newList []) false (eval iter env) (some (PySem.assign (.Name y py) env))) _ _ s₀
  refine wpAny_bind (wpAny_mono (comp_block (use := some (PySem.assign (.Name y py) env)) (P := fun _ s' => ∃ V' H', Q (erF .next) V' H' ∧ Vars env V' s'.heap ∧ HasH H' s'.heap ∧ Tr (FrX env) H s₀ H' s') hh o₀ K hs h fun D L s' H' h' t' q hns hL => ?_)
    (fun _ s' hq => wpAny_pure (wpAny_pure hq)) fun _ _ e => e)
  obtain ⟨m, hns⟩ := hns
  show wpAny C.M A (PySem.assign (.Name y py) env (.ref D)) _ _ s'
  have o' := o₀.tr h' t'
  refine assign_Name (store o' hk fun s₂ v₂ h₂ t₂ => ?_)
  have hLfr : ¬ FrX env L := fresh_fr o₀ hL
  have hLn : H' L = none := h'.not_ns hns
  have hns₂ : s₂.heap.Ns L m := by
    obtain ⟨ob, es, ep, ho, r⟩ := hns
    exact ⟨ob, es, ep, t₂.keep _ _ ho hLn hLfr, r⟩
  refine ⟨m, hns₂, fun h'' hs'' => ?_⟩
  have t₃ := t'.toX.trans t₂
  have kp : ∀ b x, b ∉ [L] → s₂.heap.get? b = some x → h''.get? b = some x := fun b x hb e => (hs''.2 b (by simpa using hb)).trans e
  have w : Owned C env H' [L] := ⟨fun b hb => by rw [List.mem_singleton.mp hb]; exact hLn, fun b hb => by
    rw [List.mem_singleton.mp hb]
    cases q : C.hb.get? L with
    | none => rfl
    | some x => exact absurd (o₀.wd.keep L x q) (by rw [hL]; exact fun z => nomatch z), fun b hb => by rw [List.mem_singleton.mp hb]; exact hLfr⟩
  obtain ⟨v₃, h₃⟩ := own_vars (o'.trS v₂ h₂ t₂) w kp
  exact ⟨_, H', q, v₃, h₃, t₃.own (.of_keep kp (tk := s₂.toks)) fun b hb => by rw [List.mem_singleton.mp hb]; exact hL⟩
end


section
variable {C : Cx} {A : Around} {env : Env} {V : VM} {H : AH}

/-- a call whose end is told at the state -/
theorem call_wp {func e : Expr} {rest : List Expr} {pos : Pos} {s : Shared} {R : Value → Shared → Prop} (o : Ok C env V H s)
    (h : EJ C A env V H func fun fv H₁ => ∃ f, er f = fv ∧ Fv f ∧ KeptF C f ∧ LJ C A env V H₁ pos (e :: rest) fun avs H₂ => ∀ s₂ vals, vals.map er = avs → Ok C env V H₂ s₂ → Tr NoX H s H₂ s₂ → wpAny C.M A (call f vals) R (fun _ _ => False) s₂)
    (he : starEach (e :: rest) env = (false, eval e env) :: starEach rest env) (hplain : (backTo pos (starEach rest env)).any (·.1) = false)
    (hc : eval (.Call func (e :: rest) [] pos) env = (do callWith pos (← eval func env) [] (backTo pos (starEach (e :: rest) env)) (backToKw pos (keywordEach [] env)))) :
    wpAny C.M A (eval (.Call func (e :: rest) [] pos) env) R (fun _ _ => False) s := by
  refine Call_ (wpAny_mono (h s o) (fun fv s₁ ⟨H₁, ⟨f, hf, hv, hk, q⟩, h₁, t₁⟩ => ?_) fun _ _ e => e) hc
  obtain rfl := er_inj hv hf.symm
  have hl := q s₁ (o.tr h₁ t₁)
  rw [he] at hl ⊢
  refine callWith_of (P := Old C) (by show ((false || (backTo pos (starEach rest env)).any (·.1)) || false) = false; rw [hplain]; rfl) hk (evalArgs_plain (wpAny_mono hl (fun vs s₂ ⟨H₂, q₂, h₂, t₂⟩ => ?_) fun _ _ e => e))
  have o₂ := (o.tr h₁ t₁).tr h₂ t₂
  exact ⟨o₂.wd.keep, q₂ s₂ vs rfl o₂ (t₁.trans t₂)⟩

theorem fresh_next {h : Heap} {b : Addr} (hb : h.objs.size ≤ b) : h.get? b = none := by
  cases q : h.get? b with
  | none => rfl
  | some o => exact absurd (Heap.lt_size q) (Nat.not_lt.mpr hb)

/-! ## iterables -/
theorem IJ.list {e : Expr} {Q : It → AH → Prop} (h : EJ C A env V H e fun v H₁ => ∃ a xs, v = .ref a ∧ H₁ a = some (.list xs) ∧ Q (.list a) H₁) : IJ C A env V H e Q := fun s o =>
  wpAny_mono (h s o) (fun v s₁ ⟨H₁, ⟨a, xs, hv, ha, q⟩, h₁, t₁⟩ => by
    obtain rfl := er_ref hv
    obtain ⟨vs, ⟨n, hp⟩, hm⟩ := h₁ a _ ha
    refine wpAny_pyIter_list ⟨_, hp, rfl, n, rfl⟩ ⟨.list a, H₁, q, h₁.keep (push_keeps _), t₁.trans (Tr.grow (push_keeps _)), s₁.heap.objs.size, [s₁.heap.objs.size], rfl, ⟨rfl, ⟨_, Heap.get?_push_size _ rfl, rfl, rfl⟩⟩, fun b hb => ?_⟩
    rw [List.mem_singleton.mp hb]
    exact ⟨t₁.alive _ (Heap.fresh _), h₁.none_new (Heap.fresh _)⟩) fun _ _ e => e

theorem rangeSize_nn (a b c : Int) : 0 ≤ Builtin.Range.rangeSize a b c := by
  unfold Builtin.Range.rangeSize
  split <;> split <;> first | (first | lia | omega) | (have := Int.ediv_nonneg (a := b - a - 1) (b := c) (by (first | lia | omega)) (by (first | lia | omega)); (first | lia | omega)) | skip
  rename_i h1 h2
  by_cases hc : c = 0
  · subst hc; simp
  · have := Int.ediv_nonneg (a := a - b - 1) (b := -c) (by (first | lia | omega)) (by (first | lia | omega)); (first | lia | omega)

theorem range_small {a b c : Int} (ha : a.natAbs ≤ 2 ^ 60) (hb : b.natAbs ≤ 2 ^ 60) (hc : c ≠ 0) (hc2 : c.natAbs ≤ 1000) : Builtin.Range.small a b c = true := by
  have key : ∀ x d : Int, 0 ≤ x → 0 < d → x / d ≤ x := fun x d hx hd => Int.ediv_le_self _ hx
  have hsz : Builtin.Range.rangeSize a b c ≤ 2 ^ 61 + 2 := by
    unfold Builtin.Range.rangeSize
    split <;> split
    · have := key (b - a - 1) c (by (first | lia | omega)) (by (first | lia | omega)); (first | lia | omega)
    · (first | lia | omega)
    · have := key (a - b - 1) (-c) (by (first | lia | omega)) (by (first | lia | omega)); (first | lia | omega)
    · (first | lia | omega)
  have hnn := rangeSize_nn a b c
  unfold Builtin.Range.small Builtin.Range.rangeFitsLong
  simp only [Bool.and_eq_true, decide_eq_true_eq, Bool.or_eq_true]
  refine ⟨⟨⟨⟨⟨by (first | lia | omega), by (first | lia | omega)⟩, by (first | lia | omega), by (first | lia | omega)⟩, by (first | lia | omega), by (first | lia | omega)⟩, by (first | lia | omega), by (first | lia | omega)⟩, .inr ?_⟩
  split <;> simp only [Bool.and_eq_true, decide_eq_true_eq] <;> constructor <;> (first | lia | omega)

/-- from a range object -/
theorem range_iter {H₂ : AH} {s s₂ : Shared} {r : Addr} {a b c : Int} {t u v : Tok} {Q : It → AH → Prop} (t₂ : Tr NoX H s H₂ s₂) (h₂ : HasH H₂ s₂.heap) (hr : IsRange s₂.heap r a b c t u v) (hs : Builtin.Range.small a b c = true)
    (q : Q (.range a c (Builtin.Range.rangeSize a b c).toNat) H₂) : wpAny C.M A (pyIter (.ref r)) (fun iv s₂ => ∃ it H', Q it H' ∧ HasH H' s₂.heap ∧ Tr NoX H s H' s₂ ∧
    ∃ I own, iv = .ref I ∧ ItCore s₂.heap I own it 0 ∧ (∀ b ∈ own, s.heap.get? b = none ∧ H' b = none)) (fun _ _ => False) s₂ := by
  refine wpAny_pyIter_range hr hs ⟨_, H₂, q, h₂.keep (push_keeps _), t₂.trans (Tr.grow (push_keeps _)), s₂.heap.objs.size, [s₂.heap.objs.size], rfl, ⟨rfl, Nat.zero_le _, ?_⟩, fun b hb => ?_⟩
  · have e1 : a + ((0 : Nat) : Int) * c = a := by simp
    have e2 : (((Builtin.Range.rangeSize a b c).toNat : Nat) : Int) - ((0 : Nat) : Int) = Builtin.Range.rangeSize a b c := by rw [Int.toNat_of_nonneg (rangeSize_nn a b c)]; simp
    rw [e1, e2]
    exact Heap.get?_push_size _ rfl
  · rw [List.mem_singleton.mp hb]
    exact ⟨t₂.alive _ (Heap.fresh _), h₂.none_new (Heap.fresh _)⟩

section
variable {p pos : Pos} {e e₂ e₃ : Expr} {Q : It → AH → Prop}
theorem map_one {vals : List Value} {x : AV} (h : vals.map er = [x]) : ∃ v, vals = [v] ∧ er v = x := by
  cases vals with
  | nil => cases h
  | cons v r => cases r with
    | nil => exact ⟨v, rfl, by simpa using h⟩
    | cons _ _ => simp at h
theorem map_two {vals : List Value} {x y : AV} (h : vals.map er = [x, y]) : ∃ u v, vals = [u, v] ∧ er u = x ∧ er v = y := by
  cases vals with
  | nil => cases h
  | cons v r =>
    rw [List.map_cons, List.cons.injEq] at h
    obtain ⟨u, rfl, h2⟩ := map_one h.2
    exact ⟨v, u, rfl, h.1, h2⟩
theorem map_three {vals : List Value} {x y z : AV} (h : vals.map er = [x, y, z]) : ∃ u v w, vals = [u, v, w] ∧ er u = x ∧ er v = y ∧ er w = z := by
  cases vals with
  | nil => cases h
  | cons v r =>
    rw [List.map_cons, List.cons.injEq] at h
    obtain ⟨u, w, rfl, h2, h3⟩ := map_two h.2
    exact ⟨v, u, w, rfl, h.1, h2, h3⟩
theorem er_ints1 {vals : List Value} {a : Int} (h : vals.map er = [.int a]) : ∃ t, vals = [.int a t] := by
  obtain ⟨v, rfl, h1⟩ := map_one h
  obtain ⟨t, rfl⟩ := er_int h1
  exact ⟨t, rfl⟩
theorem er_ints2 {vals : List Value} {a b : Int} (h : vals.map er = [.int a, .int b]) : ∃ t u, vals = [.int a t, .int b u] := by
  obtain ⟨v, w, rfl, h1, h2⟩ := map_two h
  obtain ⟨t, rfl⟩ := er_int h1
  obtain ⟨u, rfl⟩ := er_int h2
  exact ⟨t, u, rfl⟩
theorem er_ints3 {vals : List Value} {a b c : Int} (h : vals.map er = [.int a, .int b, .int c]) : ∃ t u v, vals = [.int a t, .int b u, .int c v] := by
  obtain ⟨v, w, x, rfl, h1, h2, h3⟩ := map_three h
  obtain ⟨t, rfl⟩ := er_int h1
  obtain ⟨u, rfl⟩ := er_int h2
  obtain ⟨v, rfl⟩ := er_int h3
  exact ⟨t, u, v, rfl⟩

theorem IJ.range (es : List Expr) (hes : e :: es = e :: es) (hb : C.mg "range" = none) (hk : env.kindOf "range" = some .globalImplicit)
    (h : LJ C A env V H pos (e :: es) fun avs H₁ => ∃ a b c, (avs = [.int b] ∧ a = 0 ∧ c = 1 ∨ avs = [.int a, .int b] ∧ c = 1 ∨ avs = [.int a, .int b, .int c]) ∧ a.natAbs ≤ 2 ^ 60 ∧ b.natAbs ≤ 2 ^ 60 ∧ c ≠ 0 ∧ c.natAbs ≤ 1000 ∧ Q (.range a c (Builtin.Range.rangeSize a b c).toNat) H₁)
    (he : starEach (e :: es) env = (false, eval e env) :: starEach es env) (hplain : (backTo pos (starEach es env)).any (·.1) = false)
    (hc : eval (.Call (.Name "range" p) (e :: es) [] pos) env = (do callWith pos (← eval (.Name "range" p) env) [] (backTo pos (starEach (e :: es) env)) (backToKw pos (keywordEach [] env)))) :
    IJ C A env V H (.Call (.Name "range" p) (e :: es) [] pos) Q := fun s o => by
  refine call_wp o (EJ.boot hb boot_range ⟨.type "range", rfl, trivial, KeptF.type, ?_⟩ hk (by decide) (by decide)) he hplain hc
  intro s₀ o₀
  refine wpAny_mono (h s₀ o₀) (fun vs s₁ hv => ?_) fun _ _ e => e
  obtain ⟨H₁, ⟨a, b, c, hcase, ha, hb', hc0, hc1, q⟩, h₁, t₁⟩ := hv
  refine ⟨H₁, fun s₂ vals hvals o₂ t₂ => ?_, h₁, t₁⟩
  have sm := range_small ha hb' hc0 hc1
  rcases hcase with ⟨e1, rfl, rfl⟩ | ⟨e1, rfl⟩ | e1
  · rw [e1] at hvals
    obtain ⟨t, rfl⟩ := er_ints1 hvals
    exact call_range_1 (range_iter (t₂.trans (Tr.grow (push_keeps _))) (o₂.wd.has.keep (push_keeps _)) (Heap.get?_push_size _ rfl) sm q)
  · rw [e1] at hvals
    obtain ⟨t, u, rfl⟩ := er_ints2 hvals
    exact call_range_2 (range_iter (t₂.trans (Tr.grow (push_keeps _))) (o₂.wd.has.keep (push_keeps _)) (Heap.get?_push_size _ rfl) sm q)
  · rw [e1] at hvals
    obtain ⟨t, u, v, rfl⟩ := er_ints3 hvals
    exact call_range_3 hc0 (range_iter (t₂.trans (Tr.grow (push_keeps _))) (o₂.wd.has.keep (push_keeps _)) (Heap.get?_push_size _ rfl) sm q) (.inl (PyProof.noPylong_small (by (first | lia | omega))))

theorem IJ.enum (hb : C.mg "enumerate" = none) (hk : env.kindOf "enumerate" = some .globalImplicit)
    (h : LJ C A env V H pos [e] fun avs H₁ => ∃ a xs, avs = [.ref a] ∧ H₁ a = some (.list xs) ∧ Q (.enum a) H₁)
    (he : starEach (e :: []) env = (false, eval e env) :: starEach [] env)
    (hc : eval (.Call (.Name "enumerate" p) (e :: []) [] pos) env = (do callWith pos (← eval (.Name "enumerate" p) env) [] (backTo pos (starEach (e :: []) env)) (backToKw pos (keywordEach [] env)))) :
    IJ C A env V H (.Call (.Name "enumerate" p) [e] [] pos) Q := fun s o => by
  refine call_wp o (EJ.boot hb boot_enumerate ⟨.type "enumerate", rfl, trivial, KeptF.type, ?_⟩ hk (by decide) (by decide)) he rfl hc
  intro s₀ o₀
  refine wpAny_mono (h s₀ o₀) (fun vs s₁ hv => ?_) fun _ _ e => e
  obtain ⟨H₁, ⟨a, xs, e1, ha, q⟩, h₁, t₁⟩ := hv
  refine ⟨H₁, fun s₂ vals hvals o₂ t₂ => ?_, h₁, t₁⟩
  rw [e1] at hvals
  obtain ⟨v, rfl, hv⟩ := map_one hvals
  obtain rfl := er_ref hv
  obtain ⟨us, ⟨n, hp⟩, hm⟩ := o₂.wd.has a _ ha
  refine call_enumerate_list ⟨_, hp, rfl, n, rfl⟩ fun h' he' hit' hsz kp => wpAny_pyIter_enum he' ?_
  refine ⟨.enum a, H₁, q, o₂.wd.has.keep kp, t₂.trans (Tr.grow kp), _, [s₂.heap.objs.size + 1, s₂.heap.objs.size], rfl, ⟨_, _, rfl, Nat.succ_ne_self _, he', hit'⟩, fun b hb => ?_⟩
  have e2 : s₂.heap.get? b = none := by
    simp only [List.mem_cons, List.not_mem_nil, or_false] at hb
    rcases hb with rfl | rfl
    · exact fresh_next (Nat.le_succ _)
    · exact Heap.fresh _
  exact ⟨t₂.alive _ e2, o₂.wd.has.none_new e2⟩

theorem IJ.zip (hb : C.mg "zip" = none) (hk : env.kindOf "zip" = some .globalImplicit)
    (h : LJ C A env V H pos [e, e₂] fun avs H₁ => ∃ a xs b ys, avs = [.ref a, .ref b] ∧ H₁ a = some (.list xs) ∧ H₁ b = some (.list ys) ∧ Q (.zip a b) H₁)
    (he : starEach (e :: [e₂]) env = (false, eval e env) :: starEach [e₂] env) (hplain : (backTo pos (starEach [e₂] env)).any (·.1) = false)
    (hc : eval (.Call (.Name "zip" p) (e :: [e₂]) [] pos) env = (do callWith pos (← eval (.Name "zip" p) env) [] (backTo pos (starEach (e :: [e₂]) env)) (backToKw pos (keywordEach [] env)))) :
    IJ C A env V H (.Call (.Name "zip" p) [e, e₂] [] pos) Q := fun s o => by
  refine call_wp o (EJ.boot hb boot_zip ⟨.type "zip", rfl, trivial, KeptF.type, ?_⟩ hk (by decide) (by decide)) he hplain hc
  intro s₀ o₀
  refine wpAny_mono (h s₀ o₀) (fun vs s₁ hv => ?_) fun _ _ e => e
  obtain ⟨H₁, ⟨a, xs, b, ys, e1, ha, hb', q⟩, h₁, t₁⟩ := hv
  refine ⟨H₁, fun s₂ vals hvals o₂ t₂ => ?_, h₁, t₁⟩
  rw [e1] at hvals
  obtain ⟨v, v', rfl, hv, hv'⟩ := map_two hvals
  obtain rfl := er_ref hv
  obtain rfl := er_ref hv'
  obtain ⟨us, ⟨n, hp⟩, hm⟩ := o₂.wd.has a _ ha
  obtain ⟨us', ⟨n', hp'⟩, hm'⟩ := o₂.wd.has b _ hb'
  have la : @LT.lt Nat instLTNat a s₂.heap.objs.size := Heap.lt_size hp
  have lb : @LT.lt Nat instLTNat b s₂.heap.objs.size := Heap.lt_size hp'
  refine call_zip_2 ⟨_, hp, rfl, n, rfl⟩ ⟨_, hp', rfl, n', rfl⟩ fun h' hz hTI hTO hi1 hi2 hsz kp => wpAny_pyIter_zip hz ?_
  have ap : ∀ S a b : Nat, a < S → b < S → ZipApart (S + 4) (S + 2) (S + 3) S (S + 1) a b := fun S a b h1 h2 => by
    constructor <;> (refine neN ?_; (first | lia | omega))
  refine ⟨.zip a b, H₁, q, o₂.wd.has.keep kp, t₂.trans (Tr.grow kp), _, [s₂.heap.objs.size + 4, s₂.heap.objs.size + 2, s₂.heap.objs.size + 3, s₂.heap.objs.size, s₂.heap.objs.size + 1], rfl, ⟨_, _, _, _, _, _, rfl, ap _ _ _ la lb, hz, hTI, hTO, hi1, hi2⟩, fun x hx => ?_⟩
  have e2 : s₂.heap.get? x = none := by
    refine fresh_next ?_
    simp only [List.mem_cons, List.not_mem_nil, or_false] at hx
    rcases hx with rfl | rfl | rfl | rfl | rfl <;> first | exact Nat.le_refl _ | exact Nat.le_add_right _ _
  exact ⟨t₂.alive _ e2, o₂.wd.has.none_new e2⟩
end
end


section
variable {C : Cx} {A : Around} {env : Env} {V : VM} {H : AH}

/-- o.append(e) -/
theorem XJ.append {o e : Expr} {apos pos pos' : Pos} {Q : AF → VM → AH → Prop}
    (h : EJ C A env V H o fun ov H₁ => ∃ a ys, ov = .ref a ∧ H₁ a = some (.list ys) ∧ EJ C A env V H₁ e fun v H₂ => ∃ xs, H₂ a = some (.list xs) ∧ xs.length ≤ sizeLine ∧ Q .next V (H₂.set a (.list (xs ++ [v]))))
    (hbase : attributeBase o "append" env (eval o env) = eval o env)
    (hfew : ((backTo pos (starEach [e] env)).all (fun x => !x.1) && (backToKw pos (keywordEach [] env)).all (fun x => x.1.isSome)
      && decide (([e] : List Expr).length + ([] : List Keyword).length + (if ([] : List Keyword).isEmpty then 0 else 1) < 30)) = true)
    (hline : (apos.endLine == pos.line) = true)
    (htrees : backTo pos (starEach [e] env) = [(false, eval e env)])
    (hi : interactive env = false) (hs : swapsWith (.Call (.Attribute o "append" apos) [e] [] pos) none pos'.line env = pure false) :
    XJ C A env V H (.Expr (.Call (.Attribute o "append" apos) [e] [] pos) pos') Q := fun s₀ o₀ => by
  refine wpAny_Expr (wpAny_Call_append hbase hfew hline htrees (wpAny_mono (h s₀ o₀) (fun ov s₁ hv => ?_) fun _ _ e => e)) hi hs
  obtain ⟨H₁, ⟨a, ys, hov, ha, q⟩, h₁, t₁⟩ := hv
  obtain rfl := er_ref hov
  obtain ⟨us, ⟨n, hp⟩, hm⟩ := h₁ a _ ha
  refine ⟨a, us.toArray, rfl, ⟨_, n, hp, rfl, rfl, rfl⟩, wpAny_mono (q s₁ (o₀.tr h₁ t₁)) (fun v s₂ h₂ => ?_) fun _ _ e => e⟩
  obtain ⟨H₂, ⟨xs, hx, hz, q₂⟩, h₂, t₂⟩ := h₂
  obtain ⟨vs, hpl, hm₂⟩ := h₂ a _ hx
  have o₂ := (o₀.tr h₁ t₁).tr h₂ t₂
  refine wpAny_list_append_plain hpl (fun h' hpl' hs' => ?_) (by rw [List.size_toArray, ← List.length_map (f := er), hm₂]; exact hz)
  have hpl'' : h'.PlainList a (vs ++ [v]).toArray := by simpa using hpl'
  have ea : (h'.get? a).isSome := by obtain ⟨_, e⟩ := hpl''; rw [e]; rfl
  have t₃ : Tr NoX H₂ s₂ (H₂.set a (.list (xs ++ [er v]))) { s₂ with heap := h' } := Tr.write hs' hx ea
  have h₃ : HasH (H₂.set a (.list (xs ++ [er v]))) h' := h₂.set (fun b x hb e => (hs'.2 b hb).trans e) ⟨vs ++ [v], hpl'', by simp [hm₂]⟩
  exact ⟨V, _, q₂, o₂.vars.tr o₂.wd.has t₃, h₃, (t₁.trans (t₂.trans t₃)).toX⟩

/-! ## items -/
noncomputable def ItemAt (xs : List AV) (k : Int) (v : AV) : Prop :=
  (0 ≤ k ∧ k < 2 ^ 63 ∧ xs[k.toNat]? = some v) ∨ (k < 0 ∧ -(xs.length : Int) ≤ k ∧ -(2 ^ 63) ≤ k ∧ xs[(k + xs.length).toNat]? = some v)

theorem EJ.item {ex i : Expr} {pos : Pos} {Q : AV → AH → Prop} (h : EJ C A env V H ex fun ov H₁ => EJ C A env V H₁ i fun iv H₂ => ∃ a xs k v, ov = .ref a ∧ iv = .int k ∧ H₂ a = some (.list xs) ∧ ItemAt xs k v ∧ Q v H₂)
    (hs : ∀ l k u, subscripted i false (.ref l) (.int k u) = operate [.ref l, .int k u] (getItem (.ref l) (.int k u))) : EJ C A env V H (.Subscript ex i pos) Q := fun s₀ o₀ => by
  refine Subscript_ (wpAny_mono (h s₀ o₀) (fun ov s₁ ⟨H₁, q, h₁, t₁⟩ => wpAny_mono (q s₁ (o₀.tr h₁ t₁)) (fun iv s₂ ⟨H₂, q₂, h₂, t₂⟩ => ?_) fun _ _ e => e) fun _ _ e => e)
  obtain ⟨a, xs, k, v, ha, hi, hx, hk, q₃⟩ := q₂
  obtain rfl := er_ref ha
  obtain ⟨u, rfl⟩ := er_int hi
  obtain ⟨vs, ⟨n, hp⟩, hm⟩ := h₂ a _ hx
  have hl : s₂.heap.IsList a vs.toArray := ⟨_, hp, rfl, n, rfl⟩
  have hlen : vs.length = xs.length := by rw [← hm, List.length_map]
  refine tail_any hl.typeIs slot_list_getitem.lookup ?_ (hs a k u)
  rcases hk with ⟨h0, hf, e⟩ | ⟨h0, hn, hf, e⟩
  · rw [← hm, List.getElem?_map] at e
    obtain ⟨x, hx', rfl⟩ := Option.map_eq_some_iff.mp e
    exact wpAny_getItem_list hl h0 hf (x := x) (by simpa using hx') ⟨H₂, q₃, h₂, t₁.trans t₂⟩
  · rw [← hm, List.getElem?_map] at e
    obtain ⟨x, hx', rfl⟩ := Option.map_eq_some_iff.mp e
    refine wpAny_getItem_list_neg hl h0 (by simp [hlen]; (first | lia | omega)) hf (x := x) ?_ ⟨H₂, q₃, h₂, t₁.trans t₂⟩
    rw [List.length_map] at hx'
    simpa using hx'

/-- f(..)[k] of a tuple -/
theorem EJ.itemT {ex i : Expr} {pos : Pos} {Q : AV → AH → Prop} (h : EJ C A env V H ex fun ov H₁ => EJ C A env V H₁ i fun iv H₂ => ∃ a xs k v, ov = .ref a ∧ iv = .int (k : Nat) ∧ H₂ a = some (.tup xs) ∧ xs[k]? = some v ∧ k < 1000 ∧ Q v H₂)
    (hs : ∀ l k u, subscripted i false (.ref l) (.int k u) = operate [.ref l, .int k u] (getItem (.ref l) (.int k u))) : EJ C A env V H (.Subscript ex i pos) Q := fun s₀ o₀ => by
  refine Subscript_ (wpAny_mono (h s₀ o₀) (fun ov s₁ ⟨H₁, q, h₁, t₁⟩ => wpAny_mono (q s₁ (o₀.tr h₁ t₁)) (fun iv s₂ ⟨H₂, q₂, h₂, t₂⟩ => ?_) fun _ _ e => e) fun _ _ e => e)
  obtain ⟨a, xs, k, v, ha, hi, hx, hk, hb, q₃⟩ := q₂
  obtain rfl := er_ref ha
  obtain ⟨u, rfl⟩ := er_int hi
  obtain ⟨vs, ht, hm⟩ := h₂ a _ hx
  rw [← hm, List.getElem?_map] at hk
  obtain ⟨x, hx', rfl⟩ := Option.map_eq_some_iff.mp hk
  refine item_tupleT (l := vs) ht (by (first | lia | omega)) (by (first | lia | omega)) (j := k) ?_ hx' ⟨H₂, q₃, h₂, t₁.trans t₂⟩ (hs a k u)
  have : k < vs.length := (List.getElem?_eq_some_iff.mp hx').1
  unfold seqIndex?
  simp
  (first | lia | omega)

/-! ## slices -/
noncomputable def PJ (C : Cx) (A : Around) (env : Env) (V : VM) (H : AH) (e : Option Expr) (Q : Option Int → AH → Prop) : Prop := match e with
  | none => Q none H
  | some e => EJ C A env V H e fun v H₁ => ∃ k, v = .int k ∧ Q (some k) H₁

theorem PJ.run {e : Option Expr} {Q : Option Int → AH → Prop} (h : PJ C A env V H e Q) {s : Shared} (o : Ok C env V H s) :
    wpAny C.M A (evalPart e env) (fun v s' => ∃ k H', IsPart v k ∧ Q k H' ∧ HasH H' s'.heap ∧ Tr NoX H s H' s') (fun _ _ => False) s := by
  cases e with
  | none => rw [evalPart_none]; exact wpAny_pure ⟨none, H, .none, h, o.wd.has, Tr.refl⟩
  | some e =>
    rw [evalPart_some]
    refine wpAny_mono (h s o) (fun v s' ⟨H', ⟨k, hv, q⟩, h', t'⟩ => ?_) fun _ _ e => e
    obtain ⟨t, rfl⟩ := er_int hv
    exact ⟨some k, H', .int _ _, q, h', t'⟩

/-- a list of ours, or one that stood -/
noncomputable def RdL (C : Cx) (H : AH) (a : Addr) (xs : List AV) : Prop := H a = some (.list xs) ∨ ∃ vs : List Value, C.hb.IsList a vs.toArray ∧ vs.map er = xs
theorem RdL.get {s : Shared} {a : Addr} {xs : List AV} (x : RdL C H a xs) (o : Wd C H s) : ∃ vs : List Value, s.heap.IsList a vs.toArray ∧ vs.map er = xs := by
  rcases x with x | ⟨vs, x, e⟩
  · obtain ⟨vs, ⟨n, hp⟩, hm⟩ := o.has a _ x
    exact ⟨vs, ⟨_, hp, rfl, n, rfl⟩, hm⟩
  · exact ⟨vs, x.at fun ob e => o.keep _ _ e, e⟩

noncomputable def sl (xs : List AV) (lo hi : Option Int) : List AV := (xs.drop (lo.elim 0 (clipAt xs.length))).take (hi.elim xs.length (clipAt xs.length) - lo.elim 0 (clipAt xs.length))

theorem sl_map {vs : List Value} {lo hi : Option Int} : (slicePick vs.toArray lo hi none).toList.map er = sl (vs.map er) lo hi := by
  rw [slicePick_plain]
  simp [sl, List.map_take, List.map_drop]

theorem slice_made {a : Addr} {vs : List Value} {H₂ : AH} {s s₂ : Shared} {value : Expr} {lower upper step : Option Expr} {sp : Pos} {vl vu vst : Value} {lo hi st : Option Int} {Q : AV → AH → Prop} (t₂ : Tr NoX H s H₂ s₂) (h₂ : HasH H₂ s₂.heap) (hl : s₂.heap.IsList a vs.toArray)
    (pl : IsPart vl lo) (pu : IsPart vu hi) (ps : IsPart vst st) (h0 : st ≠ some 0) (hz : vs.length ≤ sizeLine) (q : ∀ b, H₂ b = none → Q (.ref b) (H₂.set b (.list ((slicePick vs.toArray lo hi st).toList.map er))))
    (hs : ∃ ops, subscripted (.Slice lower upper step sp) false (.ref a) (.ref s₂.heap.objs.size) = operate ops (getItem (.ref a) (.ref s₂.heap.objs.size))) :
    wpAny C.M A (subscriptTail value (.Slice lower upper step sp) (.ref a) (.ref s₂.heap.objs.size)) (fun v s' => ∃ H', Q (er v) H' ∧ HasH H' s'.heap ∧ Tr NoX H s H' s') (fun _ _ => False)
      { s₂ with heap := s₂.heap.push { cls := .type "slice", data := .fields #[vl, vu, vst] } } := by
  obtain ⟨ops, hs⟩ := hs
  refine tail_any (Heap.IsList.typeIs (s := { s₂ with heap := s₂.heap.push { cls := .type "slice", data := .fields #[vl, vu, vst] } }) (hl.push _)) slot_list_getitem.lookup
    (wpAny_getItem_list_slice (hl.push _) (Heap.IsSliceOf.new ..) pl pu ps h0 ?_ (by simpa using hz)) hs
  have hn : H₂ (s₂.heap.push { cls := .type "slice", data := .fields #[vl, vu, vst] }).objs.size = none := (h₂.keep (push_keeps _)).none_new (Heap.fresh _)
  refine ⟨_, q _ hn, (h₂.keep (push_keeps { cls := .type "slice", data := .fields #[vl, vu, vst] })).set (fun b x _ e => push_keeps _ b x e) ⟨(slicePick vs.toArray lo hi st).toList, ⟨0, ?_⟩, rfl⟩, ?_⟩
  · rw [Heap.get?_push_size _ rfl]
  · exact (t₂.trans (Tr.grow (push_keeps _) (t := s₂.toks))).trans (Tr.make (push_keeps _) (Heap.fresh _) (t := s₂.toks))

theorem EJ.slice {ex : Expr} {lower upper : Option Expr} {sp pos : Pos} {Q : AV → AH → Prop}
    (h : EJ C A env V H ex fun ov H₁ => PJ C A env V H₁ lower fun lo H₂ => PJ C A env V H₂ upper fun hi H₃ => ∃ a xs, ov = .ref a ∧ RdL C H₃ a xs ∧ xs.length ≤ sizeLine ∧ ∀ b, H₃ b = none → Q (.ref b) (H₃.set b (.list (sl xs lo hi))))
    (hs : ∀ a b, ∃ ops, subscripted (.Slice lower upper none sp) false (.ref a) (.ref b) = operate ops (getItem (.ref a) (.ref b))) : EJ C A env V H (.Subscript ex (.Slice lower upper none sp) pos) Q := fun s₀ o₀ => by
  refine Subscript_ (wpAny_mono (h s₀ o₀) (fun ov s₁ ⟨H₁, q, h₁, t₁⟩ => wpAny_Slice (wpAny_mono (q.run (o₀.tr h₁ t₁)) (fun vl s₂ ⟨lo, H₂, pl, q₂, h₂, t₂⟩ =>
    wpAny_mono (q₂.run ((o₀.tr h₁ t₁).tr h₂ t₂)) (fun vu s₃ ⟨hi, H₃, pu, q₃, h₃, t₃⟩ => ?_) fun _ _ e => e) fun _ _ e => e)) fun _ _ e => e)
  obtain ⟨a, xs, ha, hx, hz, q₄⟩ := q₃
  obtain rfl := er_ref ha
  rw [evalPart_none]
  have o₃ := ((o₀.tr h₁ t₁).tr h₂ t₂).tr h₃ t₃
  obtain ⟨vs, hl, hm⟩ := hx.get o₃.wd
  refine wpAny_pure (slice_made (t₁.trans (t₂.trans t₃)) h₃ hl pl pu .none (by simp) (by rw [← List.length_map (f := er), hm]; exact hz) (fun b hb => ?_) (hs _ _))
  rw [sl_map, hm]
  exact q₄ b hb

/-- xs[::-1] -/
theorem EJ.rev {ex st : Expr} {sp pos : Pos} {Q : AV → AH → Prop}
    (h : EJ C A env V H ex fun ov H₁ => EJ C A env V H₁ st fun kv H₂ => ∃ a xs, ov = .ref a ∧ kv = .int (-1) ∧ H₂ a = some (.list xs) ∧ xs.length ≤ sizeLine ∧ ∀ b, H₂ b = none → Q (.ref b) (H₂.set b (.list xs.reverse)))
    (hs : ∀ a b, ∃ ops, subscripted (.Slice none none (some st) sp) false (.ref a) (.ref b) = operate ops (getItem (.ref a) (.ref b))) : EJ C A env V H (.Subscript ex (.Slice none none (some st) sp) pos) Q := fun s₀ o₀ => by
  refine Subscript_ (wpAny_mono (h s₀ o₀) (fun ov s₁ ⟨H₁, q, h₁, t₁⟩ => wpAny_Slice ?_) fun _ _ e => e)
  rw [evalPart_none, evalPart_some]
  refine wpAny_pure (wpAny_pure (wpAny_mono (q s₁ (o₀.tr h₁ t₁)) (fun kv s₂ ⟨H₂, ⟨a, xs, ha, hk, hx, hz, q₂⟩, h₂, t₂⟩ => ?_) fun _ _ e => e))
  obtain rfl := er_ref ha
  obtain ⟨u, rfl⟩ := er_int hk
  obtain ⟨vs, ⟨n, hp⟩, hm⟩ := h₂ a _ hx
  refine slice_made (t₁.trans t₂) h₂ ⟨_, hp, rfl, n, rfl⟩ .none .none (.int _ _) (by simp) (by rw [← List.length_map (f := er), hm]; exact hz) (fun b hb => ?_) (hs _ _)
  rw [krv_pick]
  simpa [hm] using q₂ b hb
end


section
variable {C : Cx} {A : Around} {env : Env} {V : VM} {H : AH} {Q : AV → AH → Prop}

theorem CJ.len {a : Addr} {xs : List AV} (hx : H a = some (.list xs)) (hz : xs.length < 2 ^ 62) (q : Q (.int xs.length) H) : CJ C A (.builtin "len") H [.ref a] Q := fun s vals hv o => by
  obtain ⟨v, rfl, hw⟩ := map_one hv
  obtain rfl := er_ref hw
  obtain ⟨vs, ⟨n, hp⟩, hm⟩ := o.has a _ hx
  have hlen : vs.length = xs.length := by rw [← hm, List.length_map]
  refine call_len_list ⟨_, hp, rfl, n, rfl⟩ (by rw [List.size_toArray, hlen]; (first | lia | omega)) ⟨H, ?_, o.has, Tr.tok⟩
  rw [List.size_toArray, hlen]
  exact q
theorem CJ.min {a b : Int} (hh : A.handled = none) (q : Q (.int (if b < a then b else a)) H) : CJ C A (.builtin "min") H [.int a, .int b] Q := fun s vals hv o => by
  obtain ⟨t, u, rfl⟩ := er_ints2 hv
  refine min_two_ints hh fun h' tk kp => ⟨H, ?_, o.has.keep kp, Tr.grow kp⟩
  by_cases h : b < a
  · rw [if_pos h] at q ⊢; exact q
  · rw [if_neg h] at q ⊢; exact q
theorem CJ.abs {a : Int} (q : Q (.int (if a < 0 then -a else a)) H) : CJ C A (.builtin "abs") H [.int a] Q := fun s vals hv o => by
  obtain ⟨t, rfl⟩ := er_ints1 hv
  exact call_abs_int fun u tk => ⟨H, q, o.has, Tr.tok⟩
theorem CJ.int {a : Int} (q : Q (.int a) H) : CJ C A (.type "int") H [.int a] Q := fun s vals hv o => by
  obtain ⟨t, rfl⟩ := er_ints1 hv
  exact PySem.call_int_int ⟨H, q, o.has, Tr.refl⟩

noncomputable def valOf (vs : Array Value) (i : Nat) : Int := match vs[i]? with | some (.int k _) => k | _ => 0
theorem preSum_take (vs : List Value) (ns : List Int) (h : vs.map er = ns.map .int) : ∀ k, k ≤ vs.length → preSum (valOf vs.toArray) k = (ns.take k).sum := by
  have hlen : vs.length = ns.length := by simpa using congrArg List.length h
  intro k
  induction k with
  | zero => intro _; simp [preSum]
  | succ k ih =>
    intro hk
    have hk' : k < ns.length := by (first | lia | omega)
    have e : (vs.map er)[k]? = (ns.map AV.int)[k]? := by rw [h]
    rw [List.getElem?_map, List.getElem?_map, List.getElem?_eq_getElem (by (first | lia | omega)), List.getElem?_eq_getElem hk'] at e
    obtain ⟨t, et⟩ := er_int (Option.some.inj e)
    have ev : valOf vs.toArray k = ns[k] := by
      unfold valOf
      rw [List.getElem?_toArray, List.getElem?_eq_getElem (by (first | lia | omega)), et]
    show preSum (valOf vs.toArray) k + valOf vs.toArray k = _
    rw [ih (by (first | lia | omega)), ev, List.take_add_one, List.getElem?_eq_getElem hk', List.sum_append]
    simp

theorem CJ.sum {a : Addr} {ns : List Int} (hh : A.handled = none) (hx : H a = some (.list (ns.map .int))) (q : Q (.int ns.sum) H) : CJ C A (.builtin "sum") H [.ref a] Q := fun s vals hv o => by
  obtain ⟨v, rfl, hw⟩ := map_one hv
  obtain rfl := er_ref hw
  obtain ⟨vs, ⟨n, hp⟩, hm⟩ := o.has a _ hx
  have hl : s.heap.IsList a vs.toArray := ⟨_, hp, rfl, n, rfl⟩
  have hlen : vs.length = ns.length := by simpa using congrArg List.length hm
  have hne : a ≠ s.heap.objs.size := Nat.ne_of_lt (Heap.lt_size hp)
  refine call_sum_walkG (wpAny_pyIter_list hl ?_)
  refine ⟨s.heap.objs.size, [s.heap.objs.size, a], [s.heap.objs.size], vs.toArray.size, (fun i v => vs.toArray[i]? = some v), _, valOf vs.toArray, rfl, Walks.list (A := A.in1) hh _ a hne vs.toArray,
    ⟨⟨_, Heap.get?_push_size _ rfl, rfl, rfl⟩, hl.push _⟩, fun b hb => ?_, fun i v hv => ?_, fun h' tk t' kp => ?_⟩
  · show b < (s.heap.push _).objs.size
    rw [Heap.size_push]
    simp only [List.mem_cons, List.not_mem_nil, or_false] at hb
    rcases hb with rfl | rfl
    · exact Nat.lt_succ_self _
    · exact Nat.lt_succ_of_lt (Heap.lt_size hp)
  · have e : (vs.map er)[i]? = (ns.map AV.int)[i]? := by rw [hm]
    rw [List.getElem?_map, List.getElem?_map, show vs[i]? = some v by simpa using hv] at e
    cases hn : ns[i]? with
    | none => rw [hn] at e; cases e
    | some x =>
      rw [hn] at e
      obtain ⟨t, rfl⟩ := er_int (Option.some.inj e)
      exact ⟨t, by unfold valOf; rw [hv]⟩
  · have e : preSum (valOf vs.toArray) vs.toArray.size = ns.sum := by
      rw [List.size_toArray, preSum_take vs ns hm _ (Nat.le_refl _), hlen, List.take_length]
    rw [e]
    have kp' : ∀ b x, s.heap.get? b = some x → h'.get? b = some x := fun b x eb => kp b x (fun q => by
      rw [List.mem_singleton.mp q, Heap.fresh] at eb; cases eb) (push_keeps _ b x eb)
    exact ⟨H, q, o.has.keep kp', Tr.grow kp'⟩

theorem CJ.any_false {a : Addr} {xs : List AV} (hh : A.handled = none) (hx : H a = some (.list xs)) (hf : ∀ x ∈ xs, x = .bool false) (q : Q (.bool false) H) : CJ C A (.builtin "any") H [.ref a] Q := fun s vals hv o => by
  obtain ⟨v, rfl, hw⟩ := map_one hv
  obtain rfl := er_ref hw
  obtain ⟨vs, ⟨n, hp⟩, hm⟩ := o.has a _ hx
  have hl : s.heap.IsList a vs.toArray := ⟨_, hp, rfl, n, rfl⟩
  have hne : a ≠ s.heap.objs.size := Nat.ne_of_lt (Heap.lt_size hp)
  refine call_any_walk (wpAny_pyIter_list hl ?_)
  refine ⟨s.heap.objs.size, [s.heap.objs.size, a], [s.heap.objs.size], vs.toArray.size, (fun i v => vs.toArray[i]? = some v), _, (fun _ => false), rfl, Walks.list (A := A.in1) hh _ a hne vs.toArray,
    ⟨⟨_, Heap.get?_push_size _ rfl, rfl, rfl⟩, hl.push _⟩, fun i v s' Q' E' hv hq => ?_, fun h' tk kp => ?_⟩
  · have hv' : vs[i]? = some v := by simpa using hv
    have e : er v ∈ xs := by rw [← hm]; exact List.mem_map_of_mem (List.mem_of_getElem? hv')
    obtain rfl := er_bool (hf _ e)
    exact wpAny_truthy_bool hq
  · have e : (List.range vs.toArray.size).any (fun _ => false) = false := by simp
    rw [e]
    have kp' : ∀ b x, s.heap.get? b = some x → h'.get? b = some x := fun b x eb => kp b x (fun q => by
      rw [List.mem_singleton.mp q, Heap.fresh] at eb; cases eb) (push_keeps _ b x eb)
    exact ⟨H, q, o.has.keep kp', Tr.grow kp'⟩

/-! ## lists: + and * -/
theorem BO.addL {a b : Addr} {xs ys : List AV} (hx : H a = some (.list xs)) (hy : H b = some (.list ys)) (hz : xs.length + ys.length ≤ sizeLine) (q : ∀ c, H c = none → Q (.ref c) (H.set c (.list (xs ++ ys)))) :
    BO C A H (binaryOp .Add) (.ref a) (.ref b) Q := fun va vb ha hb s o => by
  obtain rfl := er_ref ha
  obtain rfl := er_ref hb
  obtain ⟨vs, ⟨n, hp⟩, hm⟩ := o.has a _ hx
  obtain ⟨us, ⟨n', hp'⟩, hm'⟩ := o.has b _ hy
  refine P.add_list hp hp' ⟨_, q _ (o.has.none_new (Heap.fresh _)), o.has.set (fun b x _ e => push_keeps _ b x e) ⟨vs ++ us, ⟨0, ?_⟩, by simp [hm, hm']⟩, Tr.make (push_keeps _) (Heap.fresh _) (t := s.toks)⟩ ?_
  · rw [Heap.get?_push_size _ rfl]; simp
  · have e1 : vs.length = xs.length := by rw [← hm, List.length_map]
    have e2 : us.length = ys.length := by rw [← hm', List.length_map]
    simpa [e1, e2] using hz

theorem fold_rep (v : Value) : ∀ (n : Nat) (acc : List Value), List.foldl (fun x1 x2 => x1 ++ x2) acc.toArray (List.replicate n #[v]) = (acc ++ List.replicate n v).toArray
  | 0, acc => by simp
  | n + 1, acc => by
    rw [List.replicate_succ, List.foldl_cons, show acc.toArray ++ #[v] = (acc ++ [v]).toArray by simp, fold_rep v n]
    simp [List.replicate_succ]

theorem BO.mulL {a : Addr} {v : AV} {k : Int} (hx : H a = some (.list [v])) (hk : k.toNat ≤ 1000000) (hk2 : k.natAbs ≤ 1000000) (q : ∀ c, H c = none → Q (.ref c) (H.set c (.list (List.replicate k.toNat v)))) :
    BO C A H (binaryOp .Mult) (.ref a) (.int k) Q := fun va vb ha hb s o => by
  obtain rfl := er_ref ha
  obtain ⟨u, rfl⟩ := er_int hb
  obtain ⟨vs, ⟨n, hp⟩, hm⟩ := o.has a _ hx
  obtain ⟨w, rfl, hw⟩ := map_one hm
  refine wpAny_binaryOp_repeat_ref (T := "list") (U := "int") (by decide) ⟨_, hp, rfl⟩ (fun s' => typeIs_int s' k u) noFill_list_mul F.fills_int_mul F.slot_int_rmul repeat_list F.slot_int_index.lookup
    (call_meets F.slot_int_rmul (typeIs_int s k u) F.entry_int_rmul (F.args_int_rmul_2 _ _) (int___rmul___int_list k u a [w].toArray n)
      ⟨hp, rfl, ⟨_, hp, rfl⟩, call_meets F.slot_list_mul ⟨_, hp, rfl⟩ F.entry_list_mul (F.args_list_mul_2 _ _)
        (AutoListH.list___mul___list_int_3 a [w].toArray n k u (by simp [Builtin.List.listFitsIndex]; (first | lia | omega)) (by simp; (first | lia | omega)) (by simp [Builtin.List.listTooLong, sizeLine]; (first | lia | omega)))
        ⟨hp, ⟨_, q _ (o.has.none_new (Heap.fresh _)), o.has.set (fun b x _ e => push_keeps _ b x e) ⟨List.replicate k.toNat w, ⟨0, ?_⟩, by simp [hw]⟩, Tr.make (push_keeps _) (Heap.fresh _) (t := s.toks)⟩⟩⟩)
  rw [Heap.get?_push_size _ rfl]
  have e := fold_rep w k.toNat []
  simp only [List.nil_append] at e
  rw [← e]
  simp
end


section
variable {C : Cx} {A : Around} {env : Env} {V : VM} {H : AH} {Q : AV → AH → Prop}

theorem EJ.bitlen {o : Expr} {apos pos : Pos} (h : EJ C A env V H o fun ov H₁ => ∃ k, ov = .int k ∧ Q (.int (Builtin.Int.intBits k)) H₁)
    (hbase : attributeBase o "bit_length" env (eval o env) = eval o env) (hline : (apos.endLine == pos.line) = true) :
    EJ C A env V H (.Call (.Attribute o "bit_length" apos) [] [] pos) Q := fun s₀ o₀ => by
  refine wpAny_Call_method0_late hbase hline (wpAny_mono (h s₀ o₀) (fun ov s₁ hv => ?_) fun _ _ e => e)
  obtain ⟨H₁, ⟨k, hk, q⟩, h₁, t₁⟩ := hv
  obtain ⟨t, rfl⟩ := er_int hk
  exact ⟨"int", "int.bit_length", F.plainAttrs_int, F.slot_int_bit_length, F.type_int_bit_length, typeIs_int s₁ k t, (fun _ e => nomatch e),
    callWith_builtin rfl (evalArgs_nil3 (by exact call_int_bit_length ⟨H₁, q, h₁, t₁.toks⟩))⟩

/-! ## deep data -/
inductive F2 {α β : Type} (R : α → β → Prop) : List α → List β → Prop
  | nil : F2 R [] []
  | cons {x y xs ys} : R x y → F2 R xs ys → F2 R (x :: xs) (y :: ys)

theorem F2.length {α β : Type} {R : α → β → Prop} : ∀ {xs : List α} {ys : List β}, F2 R xs ys → xs.length = ys.length
  | _, _, .nil => rfl
  | _, _, .cons _ r => congrArg (· + 1) r.length
theorem F2.mono {α β : Type} {R S : α → β → Prop} (h : ∀ x y, R x y → S x y) : ∀ {xs : List α} {ys : List β}, F2 R xs ys → F2 S xs ys
  | _, _, .nil => .nil
  | _, _, .cons a r => .cons (h _ _ a) (r.mono h)
theorem F2.append {α β : Type} {R : α → β → Prop} : ∀ {xs xs' : List α} {ys ys' : List β}, F2 R xs ys → F2 R xs' ys' → F2 R (xs ++ xs') (ys ++ ys')
  | _, _, _, _, .nil, h => h
  | _, _, _, _, .cons a r, h => .cons a (r.append h)
theorem F2.take {α β : Type} {R : α → β → Prop} : ∀ {xs : List α} {ys : List β} (n : Nat), F2 R xs ys → F2 R (xs.take n) (ys.take n)
  | _, _, 0, _ => .nil
  | _, _, _ + 1, .nil => .nil
  | _, _, n + 1, .cons a r => .cons a (r.take n)
theorem F2.drop {α β : Type} {R : α → β → Prop} : ∀ {xs : List α} {ys : List β} (n : Nat), F2 R xs ys → F2 R (xs.drop n) (ys.drop n)
  | _, _, 0, h => h
  | _, _, _ + 1, .nil => .nil
  | _, _, n + 1, .cons a r => r.drop n
theorem F2.reverse {α β : Type} {R : α → β → Prop} : ∀ {xs : List α} {ys : List β}, F2 R xs ys → F2 R xs.reverse ys.reverse
  | _, _, .nil => .nil
  | _, _, .cons a r => by rw [List.reverse_cons, List.reverse_cons]; exact r.reverse.append (.cons a .nil)
theorem F2.get {α β : Type} {R : α → β → Prop} : ∀ {xs : List α} {ys : List β} {i : Nat} {y : β}, F2 R xs ys → ys[i]? = some y → ∃ x, xs[i]? = some x ∧ R x y
  | _, _, _, _, .nil, h => by simp at h
  | _, _, 0, _, .cons a r, h => by simp at h; subst h; exact ⟨_, rfl, a⟩
  | _, _, i + 1, _, .cons a r, h => by simpa using r.get (by simpa using h)
theorem F2.getX {α β : Type} {R : α → β → Prop} : ∀ {xs : List α} {ys : List β} {i : Nat} {x : α}, F2 R xs ys → xs[i]? = some x → ∃ y, ys[i]? = some y ∧ R x y
  | _, _, _, _, .nil, h => by simp at h
  | _, _, 0, _, .cons a r, h => by simp at h; subst h; exact ⟨_, rfl, a⟩
  | _, _, i + 1, _, .cons a r, h => by simpa using r.getX (by simpa using h)
theorem F2.snoc {α β : Type} {R : α → β → Prop} {xs : List α} {ys : List β} {x : α} {y : β} (h : F2 R xs ys) (h' : R x y) : F2 R (xs ++ [x]) (ys ++ [y]) := h.append (.cons h' .nil)

/-- a value stands for a list whose items stand for these -/
noncomputable def LOf {α : Type} (R : AH → AV → α → Prop) (H : AH) (v : AV) (ys : List α) : Prop := ∃ a xs, v = .ref a ∧ H a = some (.list xs) ∧ F2 (R H) xs ys
noncomputable def R0 (_ : AH) (v : AV) (i : Int) : Prop := v = .int i
noncomputable abbrev LI := LOf R0
noncomputable abbrev LL := LOf LI
noncomputable abbrev LT := LOf LL

theorem F2.ints {H : AH} : ∀ {xs : List AV} {ns : List Int}, F2 (R0 H) xs ns → xs = ns.map .int
  | _, _, .nil => rfl
  | _, _, .cons a r => by rw [List.map_cons, show _ = _ from a, r.ints]
theorem F2.of_ints {H : AH} : ∀ ns : List Int, F2 (R0 H) (ns.map .int) ns
  | [] => .nil
  | _ :: r => .cons rfl (F2.of_ints r)
theorem LI.iff {v : AV} {ns : List Int} : LI H v ns ↔ ∃ a, v = .ref a ∧ H a = some (.list (ns.map .int)) :=
  ⟨fun ⟨a, xs, e, h, f⟩ => ⟨a, e, by rw [← f.ints]; exact h⟩, fun ⟨a, e, h⟩ => ⟨a, _, e, h, F2.of_ints ns⟩⟩

/-- the heap only grown -/
noncomputable def AH.le (H H' : AH) : Prop := ∀ a c, H a = some c → H' a = some c
theorem AH.le_refl : AH.le H H := fun _ _ e => e
theorem AH.le.trans {H H' H'' : AH} (x : AH.le H H') (y : AH.le H' H'') : AH.le H H'' := fun a c e => y a c (x a c e)
theorem AH.le_set {a : Addr} {c : Cell} (h : H a = none) : AH.le H (H.set a c) := fun b d e => by
  rw [AH.set_ne (fun q => by rw [q, h] at e; cases e)]; exact e
theorem R0.up {H H' : AH} {v : AV} {y : Int} (_ : AH.le H H') (x : R0 H v y) : R0 H' v y := x
theorem LOf.up {α : Type} {R : AH → AV → α → Prop} (hR : ∀ (H H' : AH) (v : AV) (y : α), AH.le H H' → R H v y → R H' v y) {H H' : AH} {v : AV} {ys : List α} (h : AH.le H H') (x : LOf R H v ys) : LOf R H' v ys :=
  let ⟨a, xs, e, ha, f⟩ := x; ⟨a, xs, e, h _ _ ha, f.mono fun v y => hR _ _ v y h⟩
theorem LI.up {H H' : AH} {v : AV} {ys : List Int} (h : AH.le H H') (x : LI H v ys) : LI H' v ys := LOf.up (R := R0) (fun _ _ _ _ => R0.up) h x
theorem LL.up {H H' : AH} {v : AV} {ys : List (List Int)} (h : AH.le H H') (x : LL H v ys) : LL H' v ys := LOf.up (R := LI) (fun _ _ _ _ => LI.up) h x
theorem LT.up {H H' : AH} {v : AV} {ys : List (List (List Int))} (h : AH.le H H') (x : LT H v ys) : LT H' v ys := LOf.up (R := LL) (fun _ _ _ _ => LL.up) h x

/-! ## reading it as the library's data -/
noncomputable def D1 (ns : List Int) : PyData := .list (ns.map .int)
noncomputable def D2 (r : List (List Int)) : PyData := .list (r.map D1)
noncomputable def D3 (r : List (List (List Int))) : PyData := .list (r.map D2)

theorem reads_list {α : Type} {R : AH → AV → α → Prop} {D : α → PyData} {h : Heap} (hh : HasH H h) (hR : ∀ v y, R H (er v) y → ∃ as, Reads h v (D y) as) {v : Value} {ys : List α} (x : LOf R H (er v) ys) : ∃ as, Reads h v (.list (ys.map D)) as := by
  obtain ⟨a, xs, e, ha, f⟩ := x
  obtain rfl := er_ref e
  obtain ⟨vs, ⟨n, hp⟩, hm⟩ := hh a _ ha
  have key : ∀ (vs : List Value) (ys : List α), F2 (R H) (vs.map er) ys → ∃ as, ReadsAll h vs (ys.map D) as := by
    intro vs
    induction vs with
    | nil => intro ys hf; cases hf; exact ⟨_, .nil⟩
    | cons v vs ih =>
      intro ys hf
      cases hf with
      | cons a r =>
        obtain ⟨as, h1⟩ := hR _ _ a
        obtain ⟨bs, h2⟩ := ih _ r
        exact ⟨_, .cons h1 h2⟩
  obtain ⟨as, hr⟩ := key vs ys (hm ▸ f)
  exact ⟨_, .list hp rfl rfl (by simpa using hr)⟩
theorem reads0 {h : Heap} {v : Value} {i : Int} (x : R0 H (er v) i) : ∃ as, Reads h v (.int i) as := by
  obtain ⟨t, rfl⟩ := er_int x
  exact ⟨_, .int i t⟩
theorem reads1 {h : Heap} (hh : HasH H h) {v : Value} {ns : List Int} (x : LI H (er v) ns) : ∃ as, Reads h v (D1 ns) as := reads_list hh (fun v y => reads0) x
theorem reads2 {h : Heap} (hh : HasH H h) {v : Value} {ns : List (List Int)} (x : LL H (er v) ns) : ∃ as, Reads h v (D2 ns) as := reads_list hh (fun v y => reads1 hh) x
theorem reads3 {h : Heap} (hh : HasH H h) {v : Value} {ns : List (List (List Int))} (x : LT H (er v) ns) : ∃ as, Reads h v (D3 ns) as := reads_list hh (fun v y => reads2 hh) x

theorem canLay_map {α : Type} {D : α → PyData} (h : ∀ y, (D y).canLay0 = true) : ∀ ys : List α, PyData.canLayAll0 (ys.map D) = true
  | [] => by simp [PyData.canLayAll0]
  | y :: r => by rw [List.map_cons, PyData.canLayAll0, h y, canLay_map h r]; rfl
theorem canLay1 (ns : List Int) : (D1 ns).canLay0 = true := by unfold D1; rw [PyData.canLay0]; exact canLay_map (fun y => by rw [PyData.canLay0]) ns
theorem canLay2 (ns : List (List Int)) : (D2 ns).canLay0 = true := by unfold D2; rw [PyData.canLay0]; exact canLay_map canLay1 ns
theorem canLay3 (ns : List (List (List Int))) : (D3 ns).canLay0 = true := by unfold D3; rw [PyData.canLay0]; exact canLay_map canLay2 ns
theorem depth_map {α : Type} {D : α → PyData} {k : Nat} (h : ∀ y, (D y).depth ≤ k) : ∀ ys : List α, PyData.depthAll (ys.map D) ≤ k
  | [] => by simp [PyData.depthAll]
  | y :: r => by rw [List.map_cons, PyData.depthAll]; exact Nat.max_le.mpr ⟨h y, depth_map h r⟩
theorem depth1 (ns : List Int) : (D1 ns).depth ≤ 1 := by unfold D1; rw [PyData.depth]; exact Nat.succ_le_succ (depth_map (fun y => by rw [PyData.depth]; exact Nat.le_refl _) ns)
theorem depth2 (ns : List (List Int)) : (D2 ns).depth ≤ 2 := by unfold D2; rw [PyData.depth]; exact Nat.succ_le_succ (depth_map depth1 ns)
theorem depth3 (ns : List (List (List Int))) : (D3 ns).depth ≤ 3 := by unfold D3; rw [PyData.depth]; exact Nat.succ_le_succ (depth_map depth2 ns)

theorem BO.ne_of {u v : AV} {d : PyData} (hu : A.units ≤ 8000) (hc : d.canLay0 = true) (hd : d.depth ≤ 10) (ru : ∀ h x, HasH H h → er x = u → ∃ as, Reads h x d as) (rv : ∀ h x, HasH H h → er x = v → ∃ as, Reads h x d as)
    (q : Q (.bool false) H) : BO C A H (compareOp .NotEq) u v Q := fun va vb ha hb s o => by
  obtain ⟨as, r1⟩ := ru _ va o.has ha
  obtain ⟨bs, r2⟩ := rv _ vb o.has hb
  refine PySem.SeqAt.compareNe_reads r1 r2 hc hc ?_ ⟨H, ?_, o.has, Tr.refl⟩
  · unfold cLine; have := Nat.min_le_left d.depth d.depth; (first | lia | omega)
  · rw [PySem.SeqAt.eqv_refl d hc]; exact q
theorem BO.ne1 {u v : AV} {ns : List Int} (hu : A.units ≤ 8000) (ru : LI H u ns) (rv : LI H v ns) (q : Q (.bool false) H) : BO C A H (compareOp .NotEq) u v Q :=
  BO.ne_of hu (canLay1 ns) (Nat.le_trans (depth1 ns) (by decide)) (fun h x hh e => reads1 hh (e ▸ ru)) (fun h x hh e => reads1 hh (e ▸ rv)) q
theorem BO.ne3 {u v : AV} {ns : List (List (List Int))} (hu : A.units ≤ 8000) (ru : LT H u ns) (rv : LT H v ns) (q : Q (.bool false) H) : BO C A H (compareOp .NotEq) u v Q :=
  BO.ne_of hu (canLay3 ns) (Nat.le_trans (depth3 ns) (by decide)) (fun h x hh e => reads3 hh (e ▸ ru)) (fun h x hh e => reads3 hh (e ▸ rv)) q
theorem BO.neS {x : Str} (q : Q (.bool false) H) : BO C A H (compareOp .NotEq) (.str x) (.str x) Q := fun va vb ha hb s o => by
  obtain ⟨t, rfl⟩ := er_str ha
  obtain ⟨u, rfl⟩ := er_str hb
  refine PyProof.Rows.ne_str ⟨H, ?_, o.has, Tr.refl⟩
  rw [show (x != x) = false from by simp]
  exact q
end


/-! ## statements with what stands behind them -/
noncomputable def contQ (C : Cx) (A : Around) (env : Env) (rest : List Stmt) (Q : AF → VM → AH → Prop) : AF → VM → AH → Prop := fun fl V H => match fl with
  | .next => SJ C A env V H rest Q
  | fl => Q fl V H

section
variable {C : Cx} {A : Around} {env : Env} {V : VM} {H : AH} {Q : AF → VM → AH → Prop} {rest : List Stmt}

theorem SJ.consQ {st : Stmt} (h : XJ C A env V H st (contQ C A env rest Q)) : SJ C A env V H (st :: rest) Q := SJ.cons h
theorem SJ.nilC {rest : List Stmt} (h : SJ C A env V H rest Q) : SJ C A env V H [] (contQ C A env rest Q) := SJ.nil h
theorem SJ.ret {e : Expr} {pos : Pos} (h : EJ C A env V H e fun v H₁ => Q (.ret v) V H₁) : SJ C A env V H (.Return (some e) pos :: rest) Q := SJ.cons (XJ.ret h)
theorem SJ.retC {e : Expr} {pos : Pos} {r : List Stmt} (h : EJ C A env V H e fun v H₁ => Q (.ret v) V H₁) : SJ C A env V H (.Return (some e) pos :: rest) (contQ C A env r Q) := SJ.ret h
theorem SJ.if_ {test : Expr} {body orelse : List Stmt} {pos : Pos} (h : TJ C A env V H test fun b H₁ => if b then SJ C A env V H₁ body (contQ C A env rest Q) else SJ C A env V H₁ orelse (contQ C A env rest Q)) :
    SJ C A env V H (.If test body orelse pos :: rest) Q := SJ.cons (XJ.if_ h)
theorem SJ.assign {x : Str} {e : Expr} {p' pos : Pos} (h : EJ C A env V H e fun v H₁ => SJ C A env (V.set x v) H₁ rest Q) (hk : kindB env x = true) (hs : swapsWith e (some (.Name x p')) pos.line env = pure false) :
    SJ C A env V H (.Assign [.Name x p'] e pos :: rest) Q := SJ.cons (XJ.assign h hk hs)
theorem SJ.aug {x : Str} {op : Operator} {e : Expr} {p' pos : Pos} {v : AV} (hv : V x = some v) (hk : kindB env x = true)
    (h : EJ C A env V H e fun w H₁ => BO C A H₁ (inplaceOp op) v w fun r H₂ => SJ C A env (V.set x r) H₂ rest Q) : SJ C A env V H (.AugAssign (.Name x p') op e pos :: rest) Q := SJ.cons (XJ.aug hv hk h)
theorem SJ.setItem {ex i e : Expr} {p' pos : Pos} (h : EJ C A env V H e fun v H₁ => EJ C A env V H₁ ex fun ov H₂ => EJ C A env V H₂ i fun iv H₃ =>
      ∃ a xs k, ov = .ref a ∧ iv = .int (k : Nat) ∧ H₃ a = some (.list xs) ∧ k < xs.length ∧ xs.length < 2 ^ 63 ∧ SJ C A env V (H₃.set a (.list (xs.set k v))) rest Q)
    (hs : swapsWith e (some (.Subscript ex i p')) pos.line env = pure false) : SJ C A env V H (.Assign [.Subscript ex i p'] e pos :: rest) Q := SJ.cons (XJ.setItem h hs)
theorem SJ.append {o e : Expr} {apos pos pos' : Pos}
    (h : EJ C A env V H o fun ov H₁ => ∃ a ys, ov = .ref a ∧ H₁ a = some (.list ys) ∧ EJ C A env V H₁ e fun v H₂ => ∃ xs, H₂ a = some (.list xs) ∧ xs.length ≤ sizeLine ∧ SJ C A env V (H₂.set a (.list (xs ++ [v]))) rest Q)
    (hbase : attributeBase o "append" env (eval o env) = eval o env)
    (hfew : ((backTo pos (starEach [e] env)).all (fun x => !x.1) && (backToKw pos (keywordEach [] env)).all (fun x => x.1.isSome)
      && decide (([e] : List Expr).length + ([] : List Keyword).length + (if ([] : List Keyword).isEmpty then 0 else 1) < 30)) = true)
    (hline : (apos.endLine == pos.line) = true)
    (htrees : backTo pos (starEach [e] env) = [(false, eval e env)])
    (hi : interactive env = false) (hs : swapsWith (.Call (.Attribute o "append" apos) [e] [] pos) none pos'.line env = pure false) :
    SJ C A env V H (.Expr (.Call (.Attribute o "append" apos) [e] [] pos) pos' :: rest) Q := SJ.cons (XJ.append h hbase hfew hline htrees hi hs)
theorem SJ.while_ {test : Expr} {body : List Stmt} {pos : Pos} (n : Nat) (I : Nat → VM → AH → Prop) (h0 : I n V H)
    (h : ∀ k V' H', I k V' H' → TJ C A env V' H' test fun b H₁ => if b then SJ C A env V' H₁ body fun fl V₂ H₂ => match fl with
        | .next | .cont => ∃ m, m < k ∧ I m V₂ H₂
        | .brk => SJ C A env V₂ H₂ rest Q
        | .ret v => Q (.ret v) V₂ H₂
      else SJ C A env V' H₁ rest Q) : SJ C A env V H (.While test body [] pos :: rest) Q := SJ.cons (XJ.while_ n I h0 h)
theorem SJ.for_ {target iter : Expr} {body : List Stmt} {pos : Pos} (hh : A.handled = none)
    (h : IJ C A env V H iter fun it H₁ => ∃ (n : Nat) (I : Nat → VM → AH → Prop), I 0 V H₁ ∧
      (∀ k V' H', k < n → I k V' H' → ∃ iv V₁, itemAt H' it k = some (some iv) ∧ TgtOk env (FrX env) V' target iv V₁ ∧ SJ C A env V₁ H' body fun fl V₂ H₂ => match fl with
        | .next | .cont => I (k + 1) V₂ H₂
        | .brk => SJ C A env V₂ H₂ rest Q
        | .ret v => Q (.ret v) V₂ H₂) ∧
      (∀ V' H', I n V' H' → itemAt H' it n = some none ∧ SJ C A env V' H' rest Q))
    (hs : ∀ x, foldedSetIterable iter env x = pure x) : SJ C A env V H (.For target iter body [] pos :: rest) Q := SJ.cons (XJ.for_ hh h hs)
theorem SJ.swap {elts : List Expr} {k : Nat} {tpos pos : Pos} {e : Expr} {names : List Str} (hh : A.handled = none)
    (h : EJ C A env V H e fun v H₁ => ∃ a vs, v = .ref a ∧ H₁ a = some (.tup vs) ∧ vs.length = names.length ∧ SJ C A env (V.sets (names.zip vs).reverse) H₁ rest Q)
    (hk : names.all (kindB env) = true) (hs : swapsWithSole [.Tuple elts k tpos] e pos.line env = pure false) (hw : swappedStores [.Tuple elts k tpos] e env = pure (some names)) :
    SJ C A env V H (.Assign [.Tuple elts k tpos] e pos :: rest) Q := SJ.cons (XJ.swap hh h hk hs hw)
theorem SJ.unpack {nps : List (Str × Pos)} {k : Nat} {tpos pos : Pos} {e : Expr} (hh : A.handled = none)
    (h : EJ C A env V H e fun v H₁ => ∃ a vs, v = .ref a ∧ H₁ a = some (.tup vs) ∧ vs.length = nps.length ∧ SJ C A env (V.sets ((nps.map (·.1)).zip vs)) H₁ rest Q)
    (hk : (nps.all fun np => kindB env np.1) = true) (hs : swapsWithSole [.Tuple (namesOf nps) k tpos] e pos.line env = pure false) (hw : swappedStores [.Tuple (namesOf nps) k tpos] e env = pure none) :
    SJ C A env V H (.Assign [.Tuple (namesOf nps) k tpos] e pos :: rest) Q := SJ.cons (XJ.unpack hh h hk hs hw)
end

/-! ## the text -/
noncomputable def defAt (i : Nat) : Option (Str × Arguments × List Stmt × Scope) := match PySem.Challenge.pw_sj0078_01.main.body[i]? with
  | some (.FunctionDef name args body _ _ _ scope _ _ _) => some (name, args, body, scope)
  | _ => none

/-- f is the function of the text's i-th statement -/
noncomputable def IsF (C : Cx) (i : Nat) (f : Addr) : Prop := ∃ name params body scope, defAt i = some (name, params, body, scope) ∧ FnAt C name f params body scope

theorem IsF.ns {C : Cx} {i : Nat} {f : Addr} (x : IsF C i f) {name : Str} (e : (defAt i).map (·.1) = some name) : C.mg name = some (.ref f) := by
  obtain ⟨n, p, b, s, e', h⟩ := x
  rw [e'] at e
  cases e
  obtain ⟨_, _, _, _, _, _, _, _, _, _, r⟩ := h
  exact r
theorem FnAt.keep {C : Cx} {name : Str} {f : Addr} {p : Arguments} {b : List Stmt} {s : Scope} (x : FnAt C name f p b s) : KeptF C (.ref f) := by
  obtain ⟨_, _, _, _, _, _, _, _, h, _, _⟩ := x
  exact KeptF.fn h
theorem IsF.kept {C : Cx} {i : Nat} {f : Addr} (x : IsF C i f) : KeptF C (.ref f) := by
  obtain ⟨n, p, b, s, e', h⟩ := x
  exact h.keep

theorem bindV_sets {kind : Str → Option NameKind} : ∀ (b : List (Str × AV)) (m : VM), bindV kind b m = m.sets b
  | [], _ => rfl
  | (n, v) :: r, m => by show bindV kind r _ = VM.sets (m.set n v) r; rw [bindV_sets r]; rfl

theorem CJ.def_ {C : Cx} {A : Around} {H : AH} {Q : AV → AH → Prop} {k i : Nat} {name : Str} {f : Addr} {params : Arguments} {body : List Stmt} {scope : Scope} {avs : List AV} (ps : List Str) (hf : IsF C i f) (hA : Room (k + 1) A)
    (hd : defAt i = some (name, params, body, scope))
    (hbind : ∀ (doc pm cdv ct : Value) (an : Option Addr) (vals : List Value), vals.length = avs.length → bindArgs (fnOf name name params body scope .none .none doc pm an cdv ct) ⟨vals, []⟩ = pure (ps.zip vals))
    (hkind : (ps.all fun x => scope.names.lookup x == some .local || scope.names.lookup x == some .cell) = true)
    (hco : scope.isCoroutine = false) (hgen : scope.isGenerator = false) (hk : scope.kind = .function)
    (h : ∀ A' L cd, Room k A' → EnvOk C (envY name scope L f cd) → SJ C A' (envY name scope L f cd) (noV.sets (ps.zip avs)) H body fun fl _ H' => Q (match fl with | .ret v => v | _ => .none) H') :
    CJ C A (.ref f) H avs Q := by
  obtain ⟨n, p, b, s, e', hf⟩ := hf
  rw [hd] at e'
  cases e'
  refine CJ.fn hf hA hbind hkind hco hgen hk fun A' L cd r eo => ?_
  rw [bindV_sets]
  exact h A' L cd r eo


section
variable {C : Cx} {A : Around} {env : Env} {V : VM} {H : AH} {Q : AV → AH → Prop}

theorem AH.le_write {H₀ H : AH} {a : Addr} {c : Cell} (x : AH.le H₀ H) (h : H₀ a = none) : AH.le H₀ (H.set a c) := fun b d e => by
  rw [AH.set_ne (fun q => by rw [q, h] at e; cases e)]; exact x b d e
theorem AH.none_of {H₀ H : AH} {a : Addr} (x : AH.le H₀ H) (h : H a = none) : H₀ a = none := by
  cases q : H₀ a with
  | none => rfl
  | some c => rw [x a c q] at h; cases h

theorem EJ.listN {pos : Pos} {es : List Expr} (h : LJ C A env V H pos es fun vs H₁ => vs.length ≤ sizeLine ∧ ∀ a H', H₁ a = none → AH.le H₁ H' → H' a = some (.list vs) → Q (.ref a) H') : EJ C A env V H (.List es pos) Q :=
  EJ.list fun s o => wpAny_mono (h s o) (fun _ _ ⟨H', ⟨h1, h2⟩, r⟩ => ⟨H', ⟨h1, fun a ha => h2 a _ ha (AH.le_set ha) AH.set_self⟩, r⟩) fun _ _ e => e
theorem EJ.tupleN {pos : Pos} {k : Nat} {es : List Expr} (h : LJ C A env V H pos es fun vs H₁ => vs.length ≤ sizeLine ∧ ∀ a H', H₁ a = none → AH.le H₁ H' → H' a = some (.tup vs) → Q (.ref a) H') : EJ C A env V H (.Tuple es k pos) Q :=
  EJ.tuple fun s o => wpAny_mono (h s o) (fun _ _ ⟨H', ⟨h1, h2⟩, r⟩ => ⟨H', ⟨h1, fun a ha => h2 a _ ha (AH.le_set ha) AH.set_self⟩, r⟩) fun _ _ e => e
theorem BO.addN {a b : Addr} {xs ys : List AV} (hx : H a = some (.list xs)) (hy : H b = some (.list ys)) (hz : xs.length + ys.length ≤ sizeLine) (q : ∀ c H', H c = none → AH.le H H' → H' c = some (.list (xs ++ ys)) → Q (.ref c) H') :
    BO C A H (binaryOp .Add) (.ref a) (.ref b) Q := BO.addL hx hy hz fun c hc => q c _ hc (AH.le_set hc) AH.set_self
theorem BO.mulN {a : Addr} {v : AV} {k : Int} (hx : H a = some (.list [v])) (hk : k.toNat ≤ 1000000) (hk2 : k.natAbs ≤ 1000000) (q : ∀ c H', H c = none → AH.le H H' → H' c = some (.list (List.replicate k.toNat v)) → Q (.ref c) H') :
    BO C A H (binaryOp .Mult) (.ref a) (.int k) Q := BO.mulL hx hk hk2 fun c hc => q c _ hc (AH.le_set hc) AH.set_self
theorem PJ.mono {e : Option Expr} {Q Q' : Option Int → AH → Prop} (h : PJ C A env V H e Q) (hq : ∀ k H', Q k H' → Q' k H') : PJ C A env V H e Q' := by
  cases e with
  | none => exact hq _ _ h
  | some e =>
    have h' : EJ C A env V H e fun v H₁ => ∃ k, v = .int k ∧ Q (some k) H₁ := h
    show EJ C A env V H e fun v H₁ => ∃ k, v = .int k ∧ Q' (some k) H₁
    exact EJ.mono h' fun v H' ⟨k, e, q⟩ => ⟨k, e, hq _ _ q⟩
theorem PJ.noneI {Q : Option Int → AH → Prop} (h : Q none H) : PJ C A env V H none Q := h
theorem PJ.someI {e : Expr} {Q : Option Int → AH → Prop} (h : EJ C A env V H e fun v H₁ => ∃ k, v = .int k ∧ Q (some k) H₁) : PJ C A env V H (some e) Q := h
theorem EJ.sliceN {ex : Expr} {lower upper : Option Expr} {sp pos : Pos}
    (h : EJ C A env V H ex fun ov H₁ => PJ C A env V H₁ lower fun lo H₂ => PJ C A env V H₂ upper fun hi H₃ => ∃ a xs, ov = .ref a ∧ RdL C H₃ a xs ∧ xs.length ≤ sizeLine ∧ ∀ b H', H₃ b = none → AH.le H₃ H' → H' b = some (.list (sl xs lo hi)) → Q (.ref b) H')
    (hs : ∀ a b, ∃ ops, subscripted (.Slice lower upper none sp) false (.ref a) (.ref b) = operate ops (getItem (.ref a) (.ref b))) : EJ C A env V H (.Subscript ex (.Slice lower upper none sp) pos) Q :=
  EJ.slice (EJ.mono h fun _ _ q => PJ.mono q fun _ _ q => PJ.mono q fun _ _ ⟨a, xs, e, r, z, q⟩ => ⟨a, xs, e, r, z, fun b hb => q b _ hb (AH.le_set hb) AH.set_self⟩) hs
theorem EJ.revN {ex st : Expr} {sp pos : Pos}
    (h : EJ C A env V H ex fun ov H₁ => EJ C A env V H₁ st fun kv H₂ => ∃ a xs, ov = .ref a ∧ kv = .int (-1) ∧ H₂ a = some (.list xs) ∧ xs.length ≤ sizeLine ∧ ∀ b H', H₂ b = none → AH.le H₂ H' → H' b = some (.list xs.reverse) → Q (.ref b) H')
    (hs : ∀ a b, ∃ ops, subscripted (.Slice none none (some st) sp) false (.ref a) (.ref b) = operate ops (getItem (.ref a) (.ref b))) : EJ C A env V H (.Subscript ex (.Slice none none (some st) sp) pos) Q :=
  EJ.rev (EJ.mono h fun _ _ q => EJ.mono q fun _ _ ⟨a, xs, e, r, z, w, q⟩ => ⟨a, xs, e, r, z, w, fun b hb => q b _ hb (AH.le_set hb) AH.set_self⟩) hs

/-- a call of a function by its global name -/
theorem EJ.callG {x : Str} {p pos : Pos} {e : Expr} {rest : List Expr} {f : Addr} (hv : C.mg x = some (.ref f)) (hf : KeptF C (.ref f))
    (h : LJ C A env V H pos (e :: rest) fun avs H₂ => CJ C A (.ref f) H₂ avs Q) (hk : env.kindOf x = some .globalImplicit) (hd : (x == ("__debug__" : Str)) = false)
    (he : starEach (e :: rest) env = (false, eval e env) :: starEach rest env) (hplain : (backTo pos (starEach rest env)).any (·.1) = false)
    (hc : eval (.Call (.Name x p) (e :: rest) [] pos) env = (do callWith pos (← eval (.Name x p) env) [] (backTo pos (starEach (e :: rest) env)) (backToKw pos (keywordEach [] env)))) :
    EJ C A env V H (.Call (.Name x p) (e :: rest) [] pos) Q := EJ.call (EJ.glob hv ⟨.ref f, rfl, trivial, hf, h⟩ hk hd) he hplain hc
/-- by a name of the frame -/
theorem EJ.callV {x : Str} {p pos : Pos} {e : Expr} {rest : List Expr} {f : Addr} (hv : V x = some (.ref f)) (hf : KeptF C (.ref f))
    (h : LJ C A env V H pos (e :: rest) fun avs H₂ => CJ C A (.ref f) H₂ avs Q) (hk : kindB env x = true) (hd : (x == ("__debug__" : Str)) = false)
    (he : starEach (e :: rest) env = (false, eval e env) :: starEach rest env) (hplain : (backTo pos (starEach rest env)).any (·.1) = false)
    (hc : eval (.Call (.Name x p) (e :: rest) [] pos) env = (do callWith pos (← eval (.Name x p) env) [] (backTo pos (starEach (e :: rest) env)) (backToKw pos (keywordEach [] env)))) :
    EJ C A env V H (.Call (.Name x p) (e :: rest) [] pos) Q := EJ.call (EJ.var hv ⟨.ref f, rfl, trivial, hf, h⟩ hk hd) he hplain hc
/-- of a built-in -/
theorem EJ.callB {x : Str} {p pos : Pos} {e : Expr} {rest : List Expr} {f : Value} (hm : C.mg x = none) (hv : bootBuiltins x = some f) (hF : Fv f) (hf : KeptF C f)
    (h : LJ C A env V H pos (e :: rest) fun avs H₂ => CJ C A f H₂ avs Q) (hk : env.kindOf x = some .globalImplicit) (hn : x ≠ "__name__") (hd : (x == ("__debug__" : Str)) = false)
    (he : starEach (e :: rest) env = (false, eval e env) :: starEach rest env) (hplain : (backTo pos (starEach rest env)).any (·.1) = false)
    (hc : eval (.Call (.Name x p) (e :: rest) [] pos) env = (do callWith pos (← eval (.Name x p) env) [] (backTo pos (starEach (e :: rest) env)) (backToKw pos (keywordEach [] env)))) :
    EJ C A env V H (.Call (.Name x p) (e :: rest) [] pos) Q := EJ.call (EJ.boot hm hv ⟨f, rfl, hF, hf, h⟩ hk hn hd) he hplain hc

theorem sl_upto (xs : List AV) (k : Nat) : sl xs none (some (k : Int)) = xs.take k := by
  unfold sl
  simp only [Option.elim, clipAt_nat, List.drop_zero, Nat.sub_zero]
  rcases Nat.le_total k xs.length with h | h
  · rw [Nat.min_eq_left h]
  · rw [Nat.min_eq_right h, List.take_of_length_le (Nat.le_refl _), List.take_of_length_le h]
theorem sl_from (xs : List AV) (k : Nat) : sl xs (some (k : Int)) none = xs.drop k := by
  unfold sl
  simp only [Option.elim, clipAt_nat]
  rcases Nat.le_total k xs.length with h | h
  · rw [Nat.min_eq_left h, List.take_of_length_le (by simp)]
  · rw [Nat.min_eq_right h, List.drop_of_length_le (Nat.le_refl _), List.drop_of_length_le h]; simp
theorem sl_run (xs : List AV) (a b : Nat) : sl xs (some (a : Int)) (some (b : Int)) = (xs.drop a).take (b - a) := by
  unfold sl
  simp only [Option.elim, clipAt_nat]
  rcases Nat.le_total a xs.length with h | h
  · rw [Nat.min_eq_left h]
    rcases Nat.le_total b xs.length with h2 | h2
    · rw [Nat.min_eq_left h2]
    · rw [Nat.min_eq_right h2, List.take_of_length_le (by simp), List.take_of_length_le (by simp; (first | lia | omega))]
  · rw [Nat.min_eq_right h, List.drop_of_length_le (Nat.le_refl _), List.drop_of_length_le h]; simp
theorem sl_all (xs : List AV) : sl xs none none = xs := by
  unfold sl
  simp
theorem sl_but (xs : List AV) : sl xs none (some (-1)) = xs.take (xs.length - 1) := by
  unfold sl
  simp only [Option.elim, List.drop_zero, Nat.sub_zero]
  rw [show ((-1 : Int)) = -((1 : Nat) : Int) by rfl, clipAt_neg _ _ (Nat.le_refl _)]
end

section
variable {C : Cx} {A : Around} {env : Env} {V : VM} {H : AH} {Q : AF → VM → AH → Prop} {rest : List Stmt}
/-- an if whose ways meet -/
theorem SJ.ifJ {test : Expr} {body orelse : List Stmt} {pos : Pos} (P : VM → AH → Prop)
    (h : TJ C A env V H test fun b H₁ => if b then SJ C A env V H₁ body (fun fl V₂ H₂ => match fl with | .next => P V₂ H₂ | fl => Q fl V₂ H₂) else SJ C A env V H₁ orelse (fun fl V₂ H₂ => match fl with | .next => P V₂ H₂ | fl => Q fl V₂ H₂))
    (h2 : ∀ V' H', P V' H' → SJ C A env V' H' rest Q) : SJ C A env V H (.If test body orelse pos :: rest) Q := by
  have key : ∀ fl V₂ H₂, (match fl with | .next => P V₂ H₂ | fl => Q fl V₂ H₂ : Prop) → contQ C A env rest Q fl V₂ H₂ := fun fl V₂ H₂ x => by
    cases fl with
    | next => exact h2 _ _ x
    | brk => exact x
    | cont => exact x
    | ret v => exact x
  refine SJ.if_ fun s o => wpAny_mono (h s o) (fun b s' hb => ?_) fun _ _ e => e
  obtain ⟨H₁, q, r⟩ := hb
  refine ⟨H₁, ?_, r⟩
  cases b
  · rw [if_neg Bool.false_ne_true] at q ⊢
    exact SJ.mono q key
  · rw [if_pos rfl] at q ⊢
    exact SJ.mono q key

theorem SJ.swap2 {x y : Str} {p1 p2 : Pos} {k : Nat} {tpos pos : Pos} {e : Expr} (hh : A.handled = none)
    (h : EJ C A env V H e fun v H₁ => ∃ a u v', v = .ref a ∧ H₁ a = some (.tup [u, v']) ∧ SJ C A env ((V.set y v').set x u) H₁ rest Q)
    (hk : kindB env x = true) (hk2 : kindB env y = true) (hs : swapsWithSole [.Tuple [.Name x p1, .Name y p2] k tpos] e pos.line env = pure false) (hw : swappedStores [.Tuple [.Name x p1, .Name y p2] k tpos] e env = pure (some [x, y])) :
    SJ C A env V H (.Assign [.Tuple [.Name x p1, .Name y p2] k tpos] e pos :: rest) Q :=
  SJ.swap (names := [x, y]) hh (EJ.mono h fun _ _ ⟨a, u, v', e, ha, q⟩ => ⟨a, [u, v'], e, ha, rfl, q⟩) (by simp [hk, hk2]) hs hw
theorem SJ.swap3 {x y z : Str} {p1 p2 p3 : Pos} {k : Nat} {tpos pos : Pos} {e : Expr} (hh : A.handled = none)
    (h : EJ C A env V H e fun v H₁ => ∃ a u v' w, v = .ref a ∧ H₁ a = some (.tup [u, v', w]) ∧ SJ C A env (((V.set z w).set y v').set x u) H₁ rest Q)
    (hk : kindB env x = true) (hk2 : kindB env y = true) (hk3 : kindB env z = true) (hs : swapsWithSole [.Tuple [.Name x p1, .Name y p2, .Name z p3] k tpos] e pos.line env = pure false) (hw : swappedStores [.Tuple [.Name x p1, .Name y p2, .Name z p3] k tpos] e env = pure (some [x, y, z])) :
    SJ C A env V H (.Assign [.Tuple [.Name x p1, .Name y p2, .Name z p3] k tpos] e pos :: rest) Q :=
  SJ.swap (names := [x, y, z]) hh (EJ.mono h fun _ _ ⟨a, u, v', w, e, ha, q⟩ => ⟨a, [u, v', w], e, ha, rfl, q⟩) (by simp [hk, hk2, hk3]) hs hw
theorem SJ.unpack2 {x y : Str} {p1 p2 : Pos} {k : Nat} {tpos pos : Pos} {e : Expr} (hh : A.handled = none)
    (h : EJ C A env V H e fun v H₁ => ∃ a u v', v = .ref a ∧ H₁ a = some (.tup [u, v']) ∧ SJ C A env ((V.set x u).set y v') H₁ rest Q)
    (hk : kindB env x = true) (hk2 : kindB env y = true) (hs : swapsWithSole [.Tuple [.Name x p1, .Name y p2] k tpos] e pos.line env = pure false) (hw : swappedStores [.Tuple [.Name x p1, .Name y p2] k tpos] e env = pure none) :
    SJ C A env V H (.Assign [.Tuple [.Name x p1, .Name y p2] k tpos] e pos :: rest) Q :=
  SJ.unpack (nps := [(x, p1), (y, p2)]) hh (EJ.mono h fun _ _ ⟨a, u, v', e, ha, q⟩ => ⟨a, [u, v'], e, ha, rfl, q⟩) (by simp [hk, hk2]) hs hw
end


/-- the cells that a comprehension takes along -/
noncomputable def clG (env : Env) : List (Str × NameKind) → List (Str × Addr) → Option (List (Str × Addr))
  | [], acc => some acc
  | (n, k) :: r, acc => if k == .free then (match env.cells.lookup n with | some c => clG env r ((n, c) :: acc) | none => none) else clG env r acc

theorem clG_closure {env : Env} {scope : Scope} {cl : List (Str × Addr)} (h : clG env scope.names [] = some cl) : closureFor scope env = pure cl := by
  have key : ∀ (names : List (Str × NameKind)) (acc cl : List (Str × Addr)), clG env names acc = some cl →
      (forIn names acc fun x cs => (match x with | (name, kind) => if (kind == .free) = true then (do let c ← cellOf env name; pure (ForInStep.yield ((name, c) :: cs))) else pure (ForInStep.yield cs) : Sem (ForInStep (List (Str × Addr))))) = pure cl := by
    intro names
    induction names with
    | nil => intro acc cl h; cases h; rfl
    | cons y r ih =>
      intro acc cl h
      obtain ⟨n, k⟩ := y
      rw [List.forIn_cons]
      unfold clG at h
      by_cases hk : (k == NameKind.free) = true
      · rw [if_pos hk] at h
        dsimp only
        rw [if_pos hk]
        unfold cellOf
        cases hc : env.cells.lookup n with
        | none => rw [hc] at h; cases h
        | some c =>
          rw [hc] at h
          exact ih _ _ h
      · rw [if_neg hk] at h
        dsimp only
        rw [if_neg hk]
        exact ih _ _ h
  unfold closureFor
  have := key scope.names [] cl h
  exact (congrArg (fun m : Sem (List (Str × Addr)) => m >>= pure) this).trans rfl

theorem clG_mem {env : Env} : ∀ {names : List (Str × NameKind)} {acc cl : List (Str × Addr)}, clG env names acc = some cl → (∀ x ∈ acc, env.cells.lookup x.1 = some x.2) →
    (∀ x ∈ cl, env.cells.lookup x.1 = some x.2) ∧ (∀ x ∈ acc, x ∈ cl) ∧ (∀ n, (n, NameKind.free) ∈ names → ∃ c, (n, c) ∈ cl)
  | [], acc, cl, h, ha => by cases h; exact ⟨ha, fun x hx => hx, fun n hn => nomatch hn⟩
  | (n, k) :: r, acc, cl, h, ha => by
    unfold clG at h
    by_cases hk : (k == NameKind.free) = true
    · rw [if_pos hk] at h
      cases hc : env.cells.lookup n with
      | none => rw [hc] at h; cases h
      | some c =>
        rw [hc] at h
        obtain ⟨h1, h2, h3⟩ := clG_mem (names := r) (acc := (n, c) :: acc) h fun x hx => by
          rcases List.mem_cons.mp hx with rfl | hx
          · exact hc
          · exact ha x hx
        refine ⟨h1, fun x hx => h2 x (.tail _ hx), fun m hm => ?_⟩
        rcases List.mem_cons.mp hm with e | hm
        · cases e; exact ⟨c, h2 _ (.head _)⟩
        · exact h3 m hm
    · rw [if_neg hk] at h
      obtain ⟨h1, h2, h3⟩ := clG_mem (names := r) (acc := acc) h ha
      refine ⟨h1, h2, fun m hm => ?_⟩
      rcases List.mem_cons.mp hm with e | hm
      · cases e; exact absurd rfl hk
      · exact h3 m hm

noncomputable def compB (env : Env) (scope : Scope) (cl : List (Str × Addr)) : Bool :=
  (scope.kind == .function) && (scope.names.all fun y => y.2 != .cell && (y.2 != .local || scope.names.lookup y.1 == some .local) && (y.2 != .free || env.kindOf y.1 == some .cell))
    && (cl.map (·.1)).all (fun n => env.kindOf n == some .cell) && decide (cl.map (·.1)).Nodup

theorem lookup_mem {β : Type} : ∀ {l : List (Str × β)} {n : Str} {c : β}, l.lookup n = some c → (n, c) ∈ l
  | [], n, c, h => by simp at h
  | (m, d) :: r, n, c, h => by
    rw [List.lookup_cons] at h
    split at h
    · rename_i e; cases h; rw [show n = m from by simpa using e]; exact .head _
    · exact .tail _ (lookup_mem h)
theorem mem_lookup {β : Type} : ∀ {l : List (Str × β)} {n : Str} {c : β}, (n, c) ∈ l → ∃ d, l.lookup n = some d
  | (m, d) :: r, n, c, h => by
    rw [List.lookup_cons]
    split
    · exact ⟨d, rfl⟩
    · rename_i e
      rcases List.mem_cons.mp h with q | q
      · cases q; simp at e
      · exact mem_lookup q
theorem pair_ne {l : List (Str × Addr)} (h : l.Pairwise fun x y => x.2 ≠ y.2) : ∀ {x y : Str × Addr}, x ∈ l → y ∈ l → x.2 = y.2 → x = y := by
  induction h with
  | nil => intro x y hx; cases hx
  | cons h1 _ ih =>
    intro x y hx hy e
    rcases List.mem_cons.mp hx with ex | hx'
    · subst ex
      rcases List.mem_cons.mp hy with ey | hy
      · exact ey.symm
      · exact absurd e (h1 y hy)
    · rcases List.mem_cons.mp hy with e' | hy
      · rw [e'] at e; exact absurd e.symm (h1 x hx')
      · exact ih hx' hy e

theorem compOk_of {C : Cx} {env : Env} {scope : Scope} {cl : List (Str × Addr)} (eo : EnvOk C env) (h : clG env scope.names [] = some cl) (hb : compB env scope cl = true) : CompOk env scope cl := by
  obtain ⟨m1, _, m3⟩ := clG_mem h fun x hx => nomatch hx
  unfold compB at hb
  simp only [Bool.and_eq_true, decide_eq_true_eq] at hb
  obtain ⟨⟨⟨b1, b2⟩, b3⟩, b4⟩ := hb
  have b2' := List.all_eq_true.mp b2
  have b3' := List.all_eq_true.mp b3
  have hkind : ∀ n c, (n, c) ∈ cl → env.kindOf n = some .cell := fun n c hc => by
    have := b3' n (List.mem_map_of_mem hc)
    simpa using this
  have hsub : ∀ n c, cl.lookup n = some c → env.cells.lookup n = some c ∧ env.kindOf n = some .cell := fun n c hc => ⟨m1 _ (lookup_mem hc), hkind n c (lookup_mem hc)⟩
  have hcell : ∀ y ∈ scope.names, y.2 ≠ .cell := fun y hy e => by
    have := b2' y hy
    rw [e] at this
    simp at this
  refine ⟨clG_closure h, hsub, ?_, ?_, hcell, by simpa using b1, ?_⟩
  · rw [List.nodup_iff_pairwise_ne] at b4
    refine (List.pairwise_map.mp b4).imp_of_mem fun {x y} hx hy hne e => hne ?_
    have hx' := lookup_mem (m1 x hx)
    have hy' := lookup_mem (m1 y hy)
    have := pair_ne eo.apart hx' hy' e
    exact congrArg Prod.fst this
  · intro n hn
    have hm := lookup_mem hn
    unfold relabel at hm
    obtain ⟨⟨n', k'⟩, hm1, hm2⟩ := List.mem_map.mp hm
    dsimp only at hm2
    split at hm2
    · rename_i hc
      simp only [Bool.and_eq_true] at hc
      have hf : k' = .free := by simpa using hc.1.1
      subst hf
      have e : n' = n := congrArg Prod.fst hm2
      subst e
      obtain ⟨c, hc'⟩ := m3 n' hm1
      exact mem_lookup hc'
    · have e : k' = .cell := congrArg Prod.snd hm2
      exact absurd e (hcell _ hm1)
  · intro x hx hl
    have := b2' x hx
    rw [hl] at this
    simpa using this
theorem len1 {α : Type} {l : List α} (h : l.length = 1) : ∃ a, l = [a] := List.length_eq_one_iff.mp h
theorem lenS {α : Type} {l : List α} {n : Nat} (h : l.length = n + 1) : ∃ a r, l = a :: r ∧ r.length = n := by
  cases l with
  | nil => cases h
  | cons a r => exact ⟨a, r, rfl, Nat.succ.inj h⟩
theorem len2 {α : Type} {l : List α} (h : l.length = 2) : ∃ a b, l = [a, b] := by obtain ⟨a, r, rfl, h'⟩ := lenS h; obtain ⟨b, rfl⟩ := len1 h'; exact ⟨a, b, rfl⟩
theorem len3 {α : Type} {l : List α} (h : l.length = 3) : ∃ a b c, l = [a, b, c] := by obtain ⟨a, r, rfl, h'⟩ := lenS h; obtain ⟨b, c, rfl⟩ := len2 h'; exact ⟨a, b, c, rfl⟩
theorem len4 {α : Type} {l : List α} (h : l.length = 4) : ∃ a b c d, l = [a, b, c, d] := by obtain ⟨a, r, rfl, h'⟩ := lenS h; obtain ⟨b, c, d, rfl⟩ := len3 h'; exact ⟨a, b, c, d, rfl⟩
theorem len5 {α : Type} {l : List α} (h : l.length = 5) : ∃ a b c d e, l = [a, b, c, d, e] := by obtain ⟨a, r, rfl, h'⟩ := lenS h; obtain ⟨b, c, d, e, rfl⟩ := len4 h'; exact ⟨a, b, c, d, e, rfl⟩
theorem szlit {l : List AV} (h : Nat.ble l.length 8 = true) : l.length ≤ sizeLine := Nat.le_trans (Nat.le_of_ble_eq_true h) (by decide)
theorem szL {n : Nat} (h : n ≤ 1000000) : n ≤ sizeLine := Nat.le_trans h (by decide)
theorem szI {xs : List Int} (h : xs.length ≤ 1000000) : (xs.map AV.int).length ≤ sizeLine := by rw [List.length_map]; exact szL h
theorem lt62 {xs : List Int} (h : xs.length ≤ 1000000) : (xs.map AV.int).length < 2 ^ 62 := by rw [List.length_map]; (first | lia | omega)
theorem lm1 {xs : List Int} {k : Nat} (h : k < xs.length) : k < (xs.map AV.int).length := by rw [List.length_map]; exact h
theorem lm2 {xs : List Int} (h : xs.length ≤ 1000000) : (xs.map AV.int).length < 2 ^ 63 := by rw [List.length_map]; (first | lia | omega)
theorem itI {xs : List AV} {i : Nat} {v : AV} (h : i ≤ 1000000) (e : xs[i]? = some v) : ItemAt xs ((i : Nat) : Int) v := .inl ⟨Int.natCast_nonneg i, by (first | lia | omega), by rw [Int.toNat_natCast]; exact e⟩
theorem el2 {a1 a2 G : Prop} (h : a1 ∧ a2) (f : a1 → a2 → G) : G := f h.1 h.2
theorem el3 {a1 a2 a3 G : Prop} (h : a1 ∧ a2 ∧ a3) (f : a1 → a2 → a3 → G) : G := f h.1 h.2.1 h.2.2
theorem el4 {a1 a2 a3 a4 G : Prop} (h : a1 ∧ a2 ∧ a3 ∧ a4) (f : a1 → a2 → a3 → a4 → G) : G := f h.1 h.2.1 h.2.2.1 h.2.2.2
theorem el5 {a1 a2 a3 a4 a5 G : Prop} (h : a1 ∧ a2 ∧ a3 ∧ a4 ∧ a5) (f : a1 → a2 → a3 → a4 → a5 → G) : G := f h.1 h.2.1 h.2.2.1 h.2.2.2.1 h.2.2.2.2
theorem el6 {a1 a2 a3 a4 a5 a6 G : Prop} (h : a1 ∧ a2 ∧ a3 ∧ a4 ∧ a5 ∧ a6) (f : a1 → a2 → a3 → a4 → a5 → a6 → G) : G := f h.1 h.2.1 h.2.2.1 h.2.2.2.1 h.2.2.2.2.1 h.2.2.2.2.2
theorem el7 {a1 a2 a3 a4 a5 a6 a7 G : Prop} (h : a1 ∧ a2 ∧ a3 ∧ a4 ∧ a5 ∧ a6 ∧ a7) (f : a1 → a2 → a3 → a4 → a5 → a6 → a7 → G) : G := f h.1 h.2.1 h.2.2.1 h.2.2.2.1 h.2.2.2.2.1 h.2.2.2.2.2.1 h.2.2.2.2.2.2
theorem el8 {a1 a2 a3 a4 a5 a6 a7 a8 G : Prop} (h : a1 ∧ a2 ∧ a3 ∧ a4 ∧ a5 ∧ a6 ∧ a7 ∧ a8) (f : a1 → a2 → a3 → a4 → a5 → a6 → a7 → a8 → G) : G := f h.1 h.2.1 h.2.2.1 h.2.2.2.1 h.2.2.2.2.1 h.2.2.2.2.2.1 h.2.2.2.2.2.2.1 h.2.2.2.2.2.2.2
theorem el9 {a1 a2 a3 a4 a5 a6 a7 a8 a9 G : Prop} (h : a1 ∧ a2 ∧ a3 ∧ a4 ∧ a5 ∧ a6 ∧ a7 ∧ a8 ∧ a9) (f : a1 → a2 → a3 → a4 → a5 → a6 → a7 → a8 → a9 → G) : G := f h.1 h.2.1 h.2.2.1 h.2.2.2.1 h.2.2.2.2.1 h.2.2.2.2.2.1 h.2.2.2.2.2.2.1 h.2.2.2.2.2.2.2.1 h.2.2.2.2.2.2.2.2
theorem el10 {a1 a2 a3 a4 a5 a6 a7 a8 a9 a10 G : Prop} (h : a1 ∧ a2 ∧ a3 ∧ a4 ∧ a5 ∧ a6 ∧ a7 ∧ a8 ∧ a9 ∧ a10) (f : a1 → a2 → a3 → a4 → a5 → a6 → a7 → a8 → a9 → a10 → G) : G := f h.1 h.2.1 h.2.2.1 h.2.2.2.1 h.2.2.2.2.1 h.2.2.2.2.2.1 h.2.2.2.2.2.2.1 h.2.2.2.2.2.2.2.1 h.2.2.2.2.2.2.2.2.1 h.2.2.2.2.2.2.2.2.2
theorem el11 {a1 a2 a3 a4 a5 a6 a7 a8 a9 a10 a11 G : Prop} (h : a1 ∧ a2 ∧ a3 ∧ a4 ∧ a5 ∧ a6 ∧ a7 ∧ a8 ∧ a9 ∧ a10 ∧ a11) (f : a1 → a2 → a3 → a4 → a5 → a6 → a7 → a8 → a9 → a10 → a11 → G) : G := f h.1 h.2.1 h.2.2.1 h.2.2.2.1 h.2.2.2.2.1 h.2.2.2.2.2.1 h.2.2.2.2.2.2.1 h.2.2.2.2.2.2.2.1 h.2.2.2.2.2.2.2.2.1 h.2.2.2.2.2.2.2.2.2.1 h.2.2.2.2.2.2.2.2.2.2
theorem el12 {a1 a2 a3 a4 a5 a6 a7 a8 a9 a10 a11 a12 G : Prop} (h : a1 ∧ a2 ∧ a3 ∧ a4 ∧ a5 ∧ a6 ∧ a7 ∧ a8 ∧ a9 ∧ a10 ∧ a11 ∧ a12) (f : a1 → a2 → a3 → a4 → a5 → a6 → a7 → a8 → a9 → a10 → a11 → a12 → G) : G := f h.1 h.2.1 h.2.2.1 h.2.2.2.1 h.2.2.2.2.1 h.2.2.2.2.2.1 h.2.2.2.2.2.2.1 h.2.2.2.2.2.2.2.1 h.2.2.2.2.2.2.2.2.1 h.2.2.2.2.2.2.2.2.2.1 h.2.2.2.2.2.2.2.2.2.2.1 h.2.2.2.2.2.2.2.2.2.2.2
theorem el13 {a1 a2 a3 a4 a5 a6 a7 a8 a9 a10 a11 a12 a13 G : Prop} (h : a1 ∧ a2 ∧ a3 ∧ a4 ∧ a5 ∧ a6 ∧ a7 ∧ a8 ∧ a9 ∧ a10 ∧ a11 ∧ a12 ∧ a13) (f : a1 → a2 → a3 → a4 → a5 → a6 → a7 → a8 → a9 → a10 → a11 → a12 → a13 → G) : G := f h.1 h.2.1 h.2.2.1 h.2.2.2.1 h.2.2.2.2.1 h.2.2.2.2.2.1 h.2.2.2.2.2.2.1 h.2.2.2.2.2.2.2.1 h.2.2.2.2.2.2.2.2.1 h.2.2.2.2.2.2.2.2.2.1 h.2.2.2.2.2.2.2.2.2.2.1 h.2.2.2.2.2.2.2.2.2.2.2.1 h.2.2.2.2.2.2.2.2.2.2.2.2
theorem el14 {a1 a2 a3 a4 a5 a6 a7 a8 a9 a10 a11 a12 a13 a14 G : Prop} (h : a1 ∧ a2 ∧ a3 ∧ a4 ∧ a5 ∧ a6 ∧ a7 ∧ a8 ∧ a9 ∧ a10 ∧ a11 ∧ a12 ∧ a13 ∧ a14) (f : a1 → a2 → a3 → a4 → a5 → a6 → a7 → a8 → a9 → a10 → a11 → a12 → a13 → a14 → G) : G := f h.1 h.2.1 h.2.2.1 h.2.2.2.1 h.2.2.2.2.1 h.2.2.2.2.2.1 h.2.2.2.2.2.2.1 h.2.2.2.2.2.2.2.1 h.2.2.2.2.2.2.2.2.1 h.2.2.2.2.2.2.2.2.2.1 h.2.2.2.2.2.2.2.2.2.2.1 h.2.2.2.2.2.2.2.2.2.2.2.1 h.2.2.2.2.2.2.2.2.2.2.2.2.1 h.2.2.2.2.2.2.2.2.2.2.2.2.2
theorem el15 {a1 a2 a3 a4 a5 a6 a7 a8 a9 a10 a11 a12 a13 a14 a15 G : Prop} (h : a1 ∧ a2 ∧ a3 ∧ a4 ∧ a5 ∧ a6 ∧ a7 ∧ a8 ∧ a9 ∧ a10 ∧ a11 ∧ a12 ∧ a13 ∧ a14 ∧ a15) (f : a1 → a2 → a3 → a4 → a5 → a6 → a7 → a8 → a9 → a10 → a11 → a12 → a13 → a14 → a15 → G) : G := f h.1 h.2.1 h.2.2.1 h.2.2.2.1 h.2.2.2.2.1 h.2.2.2.2.2.1 h.2.2.2.2.2.2.1 h.2.2.2.2.2.2.2.1 h.2.2.2.2.2.2.2.2.1 h.2.2.2.2.2.2.2.2.2.1 h.2.2.2.2.2.2.2.2.2.2.1 h.2.2.2.2.2.2.2.2.2.2.2.1 h.2.2.2.2.2.2.2.2.2.2.2.2.1 h.2.2.2.2.2.2.2.2.2.2.2.2.2.1 h.2.2.2.2.2.2.2.2.2.2.2.2.2.2
theorem el16 {a1 a2 a3 a4 a5 a6 a7 a8 a9 a10 a11 a12 a13 a14 a15 a16 G : Prop} (h : a1 ∧ a2 ∧ a3 ∧ a4 ∧ a5 ∧ a6 ∧ a7 ∧ a8 ∧ a9 ∧ a10 ∧ a11 ∧ a12 ∧ a13 ∧ a14 ∧ a15 ∧ a16) (f : a1 → a2 → a3 → a4 → a5 → a6 → a7 → a8 → a9 → a10 → a11 → a12 → a13 → a14 → a15 → a16 → G) : G := f h.1 h.2.1 h.2.2.1 h.2.2.2.1 h.2.2.2.2.1 h.2.2.2.2.2.1 h.2.2.2.2.2.2.1 h.2.2.2.2.2.2.2.1 h.2.2.2.2.2.2.2.2.1 h.2.2.2.2.2.2.2.2.2.1 h.2.2.2.2.2.2.2.2.2.2.1 h.2.2.2.2.2.2.2.2.2.2.2.1 h.2.2.2.2.2.2.2.2.2.2.2.2.1 h.2.2.2.2.2.2.2.2.2.2.2.2.2.1 h.2.2.2.2.2.2.2.2.2.2.2.2.2.2.1 h.2.2.2.2.2.2.2.2.2.2.2.2.2.2.2
theorem el17 {a1 a2 a3 a4 a5 a6 a7 a8 a9 a10 a11 a12 a13 a14 a15 a16 a17 G : Prop} (h : a1 ∧ a2 ∧ a3 ∧ a4 ∧ a5 ∧ a6 ∧ a7 ∧ a8 ∧ a9 ∧ a10 ∧ a11 ∧ a12 ∧ a13 ∧ a14 ∧ a15 ∧ a16 ∧ a17) (f : a1 → a2 → a3 → a4 → a5 → a6 → a7 → a8 → a9 → a10 → a11 → a12 → a13 → a14 → a15 → a16 → a17 → G) : G := f h.1 h.2.1 h.2.2.1 h.2.2.2.1 h.2.2.2.2.1 h.2.2.2.2.2.1 h.2.2.2.2.2.2.1 h.2.2.2.2.2.2.2.1 h.2.2.2.2.2.2.2.2.1 h.2.2.2.2.2.2.2.2.2.1 h.2.2.2.2.2.2.2.2.2.2.1 h.2.2.2.2.2.2.2.2.2.2.2.1 h.2.2.2.2.2.2.2.2.2.2.2.2.1 h.2.2.2.2.2.2.2.2.2.2.2.2.2.1 h.2.2.2.2.2.2.2.2.2.2.2.2.2.2.1 h.2.2.2.2.2.2.2.2.2.2.2.2.2.2.2.1 h.2.2.2.2.2.2.2.2.2.2.2.2.2.2.2.2
theorem xe1 {α1 : Type} {P : α1 → Prop} {G : Prop} (h : ∃ x1, P x1) (f : ∀ x1, P x1 → G) : G := let ⟨x1, h⟩ := h; f x1 h
theorem xe2 {α1 α2 : Type} {P : α1 → α2 → Prop} {G : Prop} (h : ∃ x1 x2, P x1 x2) (f : ∀ x1 x2, P x1 x2 → G) : G := let ⟨x1, x2, h⟩ := h; f x1 x2 h
theorem xe3 {α1 α2 α3 : Type} {P : α1 → α2 → α3 → Prop} {G : Prop} (h : ∃ x1 x2 x3, P x1 x2 x3) (f : ∀ x1 x2 x3, P x1 x2 x3 → G) : G := let ⟨x1, x2, x3, h⟩ := h; f x1 x2 x3 h
theorem xe4 {α1 α2 α3 α4 : Type} {P : α1 → α2 → α3 → α4 → Prop} {G : Prop} (h : ∃ x1 x2 x3 x4, P x1 x2 x3 x4) (f : ∀ x1 x2 x3 x4, P x1 x2 x3 x4 → G) : G := let ⟨x1, x2, x3, x4, h⟩ := h; f x1 x2 x3 x4 h
theorem xe5 {α1 α2 α3 α4 α5 : Type} {P : α1 → α2 → α3 → α4 → α5 → Prop} {G : Prop} (h : ∃ x1 x2 x3 x4 x5, P x1 x2 x3 x4 x5) (f : ∀ x1 x2 x3 x4 x5, P x1 x2 x3 x4 x5 → G) : G := let ⟨x1, x2, x3, x4, x5, h⟩ := h; f x1 x2 x3 x4 x5 h
theorem xe6 {α1 α2 α3 α4 α5 α6 : Type} {P : α1 → α2 → α3 → α4 → α5 → α6 → Prop} {G : Prop} (h : ∃ x1 x2 x3 x4 x5 x6, P x1 x2 x3 x4 x5 x6) (f : ∀ x1 x2 x3 x4 x5 x6, P x1 x2 x3 x4 x5 x6 → G) : G := let ⟨x1, x2, x3, x4, x5, x6, h⟩ := h; f x1 x2 x3 x4 x5 x6 h
theorem F2.li {H : AH} {xs : List AV} {ys : List (List Int)} {i : Nat} {y : List Int} {G : Prop} (f : F2 (LI H) xs ys) (h : ys[i]? = some y) (g : ∀ a, xs[i]? = some (.ref a) → H a = some (.list (y.map .int)) → G) : G := by
  obtain ⟨x, hx, hL⟩ := f.get h
  obtain ⟨a, rfl, ha⟩ := LI.iff.mp hL
  exact g a hx ha
theorem F2.ll {H : AH} {xs : List AV} {ys : List (List (List Int))} {i : Nat} {y : List (List Int)} {G : Prop} (f : F2 (LL H) xs ys) (h : ys[i]? = some y) (g : ∀ a us, xs[i]? = some (.ref a) → H a = some (.list us) → F2 (LI H) us y → G) : G := by
  obtain ⟨x, hx, hL⟩ := f.get h
  obtain ⟨a, us, rfl, ha, hf⟩ := hL
  exact g a us hx ha hf

/-! ## numbers by limbs -/
noncomputable def num (B : Int) : List Int → Int
  | [] => 0
  | x :: r => x + B * num B r
noncomputable def Limbs (B : Int) (l : List Int) : Prop := ∀ x ∈ l, 0 ≤ x ∧ x < B
noncomputable def normalL (a : List Int) : List Int := (a.reverse.dropWhile (· == 0)).reverse

theorem normalL_snoc0 (a : List Int) : normalL (a ++ [0]) = normalL a := by simp [normalL]
theorem normalL_snoc (a : List Int) {x : Int} (h : x ≠ 0) : normalL (a ++ [x]) = a ++ [x] := by simp [normalL, h]

theorem num_append (B : Int) (xs ys : List Int) : num B (xs ++ ys) = num B xs + B ^ xs.length * num B ys := by
  induction xs with
  | nil => simp [num]
  | cons x r ih => simp only [List.cons_append, num, ih, List.length_cons, Int.pow_succ]; grind
theorem num_set (B : Int) : ∀ (l : List Int) (i : Nat) (x y : Int), l[i]? = some y → num B (l.set i x) = num B l + (x - y) * B ^ i
  | [], i, x, y, h => by simp at h
  | z :: r, 0, x, y, h => by simp at h; subst h; simp [num]; (first | lia | omega)
  | z :: r, i + 1, x, y, h => by
    simp only [List.set_cons_succ, num]
    rw [num_set B r i x y (by simpa using h), Int.pow_succ]; grind
theorem Limbs.set {B : Int} {l : List Int} (h : Limbs B l) (i : Nat) {x : Int} (hx : 0 ≤ x ∧ x < B) : Limbs B (l.set i x) := fun y hy => by
  rcases List.mem_or_eq_of_mem_set hy with q | q
  · exact h y q
  · exact q ▸ hx
theorem Limbs.append {B : Int} {l r : List Int} (h : Limbs B l) (h' : Limbs B r) : Limbs B (l ++ r) := fun y hy => by
  rcases List.mem_append.mp hy with q | q
  · exact h y q
  · exact h' y q
theorem Limbs.snoc {B : Int} {l : List Int} (h : Limbs B l) {x : Int} (hx : 0 ≤ x ∧ x < B) : Limbs B (l ++ [x]) := h.append fun y hy => by rw [List.mem_singleton.mp hy]; exact hx
theorem Limbs.take {B : Int} {l : List Int} (h : Limbs B l) (k : Nat) : Limbs B (l.take k) := fun y hy => h y (List.mem_of_mem_take hy)
theorem Limbs.drop {B : Int} {l : List Int} (h : Limbs B l) (k : Nat) : Limbs B (l.drop k) := fun y hy => h y (List.mem_of_mem_drop hy)
theorem Limbs.get {B : Int} {l : List Int} (h : Limbs B l) {k : Nat} {x : Int} (e : l[k]? = some x) : 0 ≤ x ∧ x < B := h x (List.mem_of_getElem? e)
theorem num_nonneg {B : Int} (hB : 0 ≤ B) : ∀ {l : List Int}, Limbs B l → 0 ≤ num B l
  | [], _ => Int.le_refl 0
  | x :: r, h => by
    have h1 := (h x (.head _)).1
    have h2 := Int.mul_nonneg hB (num_nonneg hB (l := r) fun y hy => h y (.tail _ hy))
    simp only [num]; (first | lia | omega)
theorem num_lt {B : Int} (hB : 0 < B) : ∀ {l : List Int}, Limbs B l → num B l < B ^ l.length
  | [], _ => by simp [num]
  | x :: r, h => by
    have h1 := (h x (.head _)).2
    have h2 := num_lt hB (l := r) fun y hy => h y (.tail _ hy)
    have h3 : B * (num B r + 1) ≤ B * B ^ r.length := Int.mul_le_mul_of_nonneg_left (by (first | lia | omega)) (by (first | lia | omega))
    simp only [num, List.length_cons, Int.pow_succ]
    rw [Int.mul_comm (B ^ r.length) B]
    rw [Int.mul_add] at h3
    (first | lia | omega)
theorem num_split (B : Int) (l : List Int) (k : Nat) (h : k ≤ l.length) : num B l = num B (l.take k) + B ^ k * num B (l.drop k) := by
  have := num_append B (l.take k) (l.drop k)
  rw [List.take_append_drop, List.length_take, Nat.min_eq_left h] at this
  exact this
theorem num_snoc (B : Int) (l : List Int) (x : Int) : num B (l ++ [x]) = num B l + B ^ l.length * x := by
  rw [num_append]; simp [num]
theorem num_take_succ (B : Int) {l : List Int} {k : Nat} {x : Int} (h : l[k]? = some x) : num B (l.take (k + 1)) = num B (l.take k) + B ^ k * x := by
  have hk : k < l.length := (List.getElem?_eq_some_iff.mp h).1
  rw [List.take_add_one, h]
  show num B (l.take k ++ [x]) = _
  rw [num_snoc, List.length_take, Nat.min_eq_left (by (first | lia | omega))]
theorem num_zeros (B : Int) : ∀ n, num B (List.replicate n 0) = 0
  | 0 => rfl
  | n + 1 => by rw [List.replicate_succ, num, num_zeros B n]; simp
theorem Limbs.zeros {B : Int} (hB : 0 < B) (n : Nat) : Limbs B (List.replicate n 0) := fun x hx => by
  rw [List.eq_of_mem_replicate hx]; (first | lia | omega)

/-! ## the limbs of a number -/
noncomputable def limb (B v : Int) : List Int := if h : 2 ≤ B ∧ 0 < v then (v % B) :: limb B (v / B) else []
termination_by v.toNat
decreasing_by
  have h1 := Int.ediv_lt_self_of_pos_of_ne_one h.2 (show B ≠ 1 by (first | lia | omega))
  have h2 := Int.ediv_nonneg (show 0 ≤ v by (first | lia | omega)) (show 0 ≤ B by (first | lia | omega))
  (first | lia | omega)
theorem limb_nil {B v : Int} (h : v ≤ 0) : limb B v = [] := by rw [limb, dif_neg (by (first | lia | omega))]
theorem limb_cons {B v : Int} (hB : 2 ≤ B) (h : 0 < v) : limb B v = (v % B) :: limb B (v / B) := by rw [limb, dif_pos ⟨hB, h⟩]

noncomputable def Norm : List Int → Prop
  | [] => True
  | [x] => x ≠ 0
  | _ :: y :: r => Norm (y :: r)
theorem norm_snoc : ∀ (a : List Int) (x : Int), x ≠ 0 → Norm (a ++ [x])
  | [], x, h => h
  | [y], x, h => h
  | y :: z :: r, x, h => by
    show Norm (z :: (r ++ [x]))
    exact norm_snoc (z :: r) x h
theorem snoc_cases : ∀ (l : List Int), l = [] ∨ ∃ a x, l = a ++ [x]
  | [] => .inl rfl
  | y :: r => by
    rcases snoc_cases r with rfl | ⟨a, x, rfl⟩
    · exact .inr ⟨[], y, rfl⟩
    · exact .inr ⟨y :: a, x, rfl⟩
theorem normalL_facts (B : Int) (n : Nat) : ∀ l : List Int, l.length = n → Norm (normalL l) ∧ num B (normalL l) = num B l ∧ (Limbs B l → Limbs B (normalL l)) := by
  induction n with
  | zero => intro l hl; rw [List.length_eq_zero_iff.mp hl]; exact ⟨trivial, rfl, fun h => h⟩
  | succ n ih =>
    intro l hl
    rcases snoc_cases l with rfl | ⟨a, x, rfl⟩
    · cases hl
    · by_cases hx : x = 0
      · subst hx
        rw [normalL_snoc0, num_snoc]
        obtain ⟨h1, h2, h3⟩ := ih a (by simpa using hl)
        exact ⟨h1, by rw [h2]; simp, fun h => h3 fun y hy => h y (List.mem_append_left _ hy)⟩
      · rw [normalL_snoc a hx]
        exact ⟨norm_snoc a x hx, rfl, fun h => h⟩
theorem num_pos {B : Int} (hB : 2 ≤ B) : ∀ {l : List Int}, Limbs B l → Norm l → l ≠ [] → 0 < num B l
  | [], _, _, h => absurd rfl h
  | [x], h, hn, _ => by
    have := (h x (.head _)).1
    have hx : x ≠ 0 := hn
    simp [num]; (first | lia | omega)
  | x :: y :: r, h, hn, _ => by
    have h1 := (h x (.head _)).1
    have h2 := num_pos hB (l := y :: r) (fun z hz => h z (.tail _ hz)) hn (by simp)
    have h3 : 0 < B * num B (y :: r) := Int.mul_pos (by (first | lia | omega)) h2
    show 0 < x + B * num B (y :: r)
    (first | lia | omega)
theorem limb_of {B : Int} (hB : 2 ≤ B) : ∀ {l : List Int}, Limbs B l → Norm l → limb B (num B l) = l
  | [], _, _ => limb_nil (Int.le_refl 0)
  | x :: r, h, hn => by
    have hp := num_pos hB h hn (by simp)
    have hx := h x (.head _)
    have hr : Norm r := by
      cases r with
      | nil => trivial
      | cons y r => exact hn
    rw [limb_cons hB hp]
    have e1 : (x + B * num B r) % B = x := by rw [Int.add_mul_emod_self_left]; exact Int.emod_eq_of_lt hx.1 hx.2
    have e2 : (x + B * num B r) / B = num B r := by
      rw [Int.add_mul_ediv_left _ _ (by (first | lia | omega)), Int.ediv_eq_zero_of_lt hx.1 hx.2]; (first | lia | omega)
    simp only [num, e1, e2]
    rw [limb_of hB (fun y hy => h y (.tail _ hy)) hr]
theorem normal_limb {B : Int} (hB : 2 ≤ B) {l : List Int} (h : Limbs B l) : normalL l = limb B (num B l) := by
  obtain ⟨h1, h2, h3⟩ := normalL_facts B l.length l rfl
  rw [← h2, limb_of hB (h3 h) h1]
theorem limb_facts {B : Int} (hB : 2 ≤ B) (n : Nat) : ∀ v : Int, 0 ≤ v → v.toNat ≤ n → Limbs B (limb B v) ∧ num B (limb B v) = v ∧ Norm (limb B v) := by
  induction n with
  | zero => intro v h0 h; rw [limb_nil (by (first | lia | omega))]; exact ⟨(fun x hx => nomatch hx), (by simp [num]; (first | lia | omega)), trivial⟩
  | succ n ih =>
    intro v h0 h
    by_cases hv : v = 0
    · subst hv; rw [limb_nil (by (first | lia | omega))]; exact ⟨(fun x hx => nomatch hx), (by simp [num]), trivial⟩
    · have hp : 0 < v := by (first | lia | omega)
      have hd := Int.ediv_lt_self_of_pos_of_ne_one hp (show B ≠ 1 by (first | lia | omega))
      have hd0 := Int.ediv_nonneg h0 (show 0 ≤ B by (first | lia | omega))
      have hm0 := Int.emod_nonneg v (show B ≠ 0 by (first | lia | omega))
      have hm1 := Int.emod_lt_of_pos v (show 0 < B by (first | lia | omega))
      have he := Int.emod_add_mul_ediv v B
      obtain ⟨h1, h2, h3⟩ := ih (v / B) hd0 (by (first | lia | omega))
      rw [limb_cons hB hp]
      refine ⟨fun x hx => ?_, ?_, ?_⟩
      · rcases List.mem_cons.mp hx with rfl | hx
        · exact ⟨hm0, hm1⟩
        · exact h1 x hx
      · simp only [num, h2]; exact he
      · by_cases hz : v / B = 0
        · rw [hz, limb_nil (by (first | lia | omega))]
          show v % B ≠ 0
          rw [hz] at he; (first | lia | omega)
        · rw [limb_cons hB (by (first | lia | omega))] at h3 ⊢
          exact h3
theorem limbs_limb {B v : Int} (hB : 2 ≤ B) (h : 0 ≤ v) : Limbs B (limb B v) := (limb_facts hB v.toNat v h (Nat.le_refl _)).1
theorem num_limb {B v : Int} (hB : 2 ≤ B) (h : 0 ≤ v) : num B (limb B v) = v := (limb_facts hB v.toNat v h (Nat.le_refl _)).2.1
theorem norm_limb {B v : Int} (hB : 2 ≤ B) (h : 0 ≤ v) : Norm (limb B v) := (limb_facts hB v.toNat v h (Nat.le_refl _)).2.2

theorem num_get (B : Int) {l : List Int} {i : Nat} {x : Int} (h : l[i]? = some x) : num B l = num B (l.take i) + B ^ i * (x + B * num B (l.drop (i + 1))) := by
  have hi : i < l.length := (List.getElem?_eq_some_iff.mp h).1
  rw [num_split B l i (by (first | lia | omega))]
  have e : l.drop i = x :: l.drop (i + 1) := by
    rw [List.drop_eq_getElem_cons hi, (List.getElem?_eq_some_iff.mp h).2]
  rw [e]; rfl
theorem pow_pos' {B : Int} (hB : 0 < B) (k : Nat) : 0 < B ^ k := by
  induction k with
  | zero => simp
  | succ k ih => rw [Int.pow_succ]; exact Int.mul_pos ih hB
theorem cmp_top {B : Int} (hB : 2 ≤ B) {xs ys : List Int} (lx : Limbs B xs) (ly : Limbs B ys) {i : Nat} {x y : Int} (hx : xs[i]? = some x) (hy : ys[i]? = some y) (hd : xs.drop (i + 1) = ys.drop (i + 1)) (hlt : x < y) : num B xs < num B ys := by
  rw [num_get B hx, num_get B hy, hd]
  have hi : i < xs.length := (List.getElem?_eq_some_iff.mp hx).1
  have h1 := num_lt (show 0 < B by (first | lia | omega)) (lx.take i)
  have h2 := num_nonneg (show 0 ≤ B by (first | lia | omega)) (ly.take i)
  rw [List.length_take, Nat.min_eq_left (by (first | lia | omega))] at h1
  have h3 : B ^ i * (x + 1) ≤ B ^ i * y := Int.mul_le_mul_of_nonneg_left (by (first | lia | omega)) (Int.le_of_lt (pow_pos' (by (first | lia | omega)) i))
  rw [Int.mul_add, Int.mul_one] at h3
  rw [Int.mul_add, Int.mul_add]
  (first | lia | omega)
theorem num_ge {B : Int} (hB : 2 ≤ B) : ∀ {l : List Int}, Limbs B l → Norm l → l ≠ [] → B ^ (l.length - 1) ≤ num B l
  | [], _, _, h => absurd rfl h
  | [x], h, hn, _ => by
    have := (h x (.head _)).1
    have hx : x ≠ 0 := hn
    simp [num]; (first | lia | omega)
  | x :: y :: r, h, hn, _ => by
    have h1 := (h x (.head _)).1
    have h2 := num_ge hB (l := y :: r) (fun z hz => h z (.tail _ hz)) hn (by simp)
    have h3 : B * B ^ ((y :: r).length - 1) ≤ B * num B (y :: r) := Int.mul_le_mul_of_nonneg_left h2 (by (first | lia | omega))
    show B ^ ((y :: r).length) ≤ x + B * num B (y :: r)
    have e : (y :: r).length = (y :: r).length - 1 + 1 := by simp
    rw [e, Int.pow_succ, Int.mul_comm _ B]
    (first | lia | omega)
theorem pow_le_pow' {B : Int} (hB : 1 ≤ B) {m n : Nat} (h : m ≤ n) : B ^ m ≤ B ^ n := by
  obtain ⟨k, rfl⟩ := Nat.exists_eq_add_of_le h
  rw [Int.pow_add]
  have h1 := pow_pos' (show 0 < B by (first | lia | omega)) m
  have h2 := pow_pos' (show 0 < B by (first | lia | omega)) k
  have := Int.mul_le_mul_of_nonneg_left (show 1 ≤ B ^ k by (first | lia | omega)) (Int.le_of_lt h1)
  (first | lia | omega)
theorem cmp_len {B : Int} (hB : 2 ≤ B) {xs ys : List Int} (lx : Limbs B xs) (ly : Limbs B ys) (ny : Norm ys) (h : xs.length < ys.length) : num B xs < num B ys := by
  have h1 := num_lt (show 0 < B by (first | lia | omega)) lx
  have h2 := num_ge hB ly ny (by intro e; rw [e] at h; simp at h)
  have h3 := pow_le_pow' (show 1 ≤ B by (first | lia | omega)) (show xs.length ≤ ys.length - 1 by (first | lia | omega))
  (first | lia | omega)

theorem ib1 : Builtin.Int.intBits 1 = 1 := by decide
theorem TgtOk.pair {env : Env} {X : Addr → Prop} {V : VM} {x y : Str} {p q : Pos} {k : Nat} {tp : Pos} {u v : AV} (h1 : kindB env x = true) (h2 : kindB env y = true) (h3 : StX env X x) (h4 : StX env X y) :
    TgtOk env X V (.Tuple [.Name x p, .Name y q] k tp) (.two u v) ((V.set x u).set y v) := TgtOk.two (p := p) (q := q) h1 h2 h3 h4
theorem SJ.assignJ {C : Cx} {A : Around} {env : Env} {V : VM} {H : AH} {Q : AF → VM → AH → Prop} {rest : List Stmt} {x : Str} {e : Expr} {p' pos : Pos} (P : AV → AH → Prop) (h : EJ C A env V H e P) (h2 : ∀ v H₁, P v H₁ → SJ C A env (V.set x v) H₁ rest Q)
    (hk : kindB env x = true) (hs : swapsWith e (some (.Name x p')) pos.line env = pure false) : SJ C A env V H (.Assign [.Name x p'] e pos :: rest) Q := SJ.assign (EJ.mono h h2) hk hs


theorem cells_set {env : Env} {V Vk : VM} {x : Str} {v : AV} (h : env.kindOf x = some .local) (hk : ∀ y, env.kindOf y = some .cell → Vk y = V y) : ∀ y, env.kindOf y = some .cell → (Vk.set x v) y = V y := fun y hy => by
  have hne : y ≠ x := fun e => by rw [e, h] at hy; cases hy
  have : (Vk.set x v) y = Vk y := by unfold VM.set; simp [hne]
  rw [this]; exact hk y hy


theorem SJ.assignComp {C : Cx} {A : Around} {env : Env} {V : VM} {H : AH} {Q : AF → VM → AH → Prop} {rest : List Stmt} {elt target iter : Expr} {scope : Scope} {pos spos py : Pos} {y : Str} {cl : List (Str × Addr)} (hh : A.handled = none) (K : CompOk env scope cl) (hs : ∀ x, foldedSetIterable iter env x = pure x)
    (hsw : swapsWith (.ListComp elt [⟨target, iter, [], 0⟩] scope pos) (some (.Name y py)) spos.line env = pure true) (hk : kindB env y = true)
    (h : CompJ C A env V H elt target iter scope cl fun v H₁ => SJ C A env (V.set y v) H₁ rest Q) : SJ C A env V H (.Assign [.Name y py] (.ListComp elt [⟨target, iter, [], 0⟩] scope pos) spos :: rest) Q :=
  SJ.consQ (XJ.assignComp hh K hs hsw hk h)

local macro_rules | `(tactic| wtm_at "rf") => `(tactic| first | rfl | (intros; rfl) | with_unfolding_all rfl | (intros; with_unfolding_all rfl) | decide)
local macro_rules | `(tactic| wtm_at "ops") => `(tactic| (intros; exact ⟨_, by first | rfl | with_unfolding_all rfl⟩))
local macro_rules | `(tactic| wtm_at "lk") => `(tactic| first
  | with_reducible exact VM.set_self
  | assumption
  | ((with_reducible refine' Eq.trans (VM.set_ne ?n) ?_); (case n => decide); wtm_at "lk"))
local macro_rules | `(tactic| wtm_at "boot") => `(tactic| first | exact boot_len | exact PyProof.Rows.boot_min | exact boot_sum | exact PyProof.Rows.boot_abs | exact PyProof.Rows.boot_int | exact PyProof.Rows.boot_repr | exact boot_any)
local macro_rules | `(tactic| wtm_at "keptb") => `(tactic| first | exact KeptF.builtin | exact KeptF.type)
-- one step into an expression, a test, a list of expressions
local macro_rules | `(tactic| wtm_at "e1") => `(tactic| first
  | with_reducible refine EJ.int ?_
  | with_reducible refine EJ.bool ?_
  | ((with_reducible refine' EJ.var ?v ?_ ?k ?d); (case k => rfl); (case d => decide); (case v => wtm_at "lk"))
  | with_reducible refine EJ.binop ?_
  | ((with_reducible refine' EJ.cmp ?_ ?m); (case m => wtm_at "rf"))
  | with_reducible refine EJ.unop ?_
  | with_reducible refine EJ.ifexp ?_
  | ((with_reducible refine' EJ.callB ?m ?b ?f ?k ?_ ?kk ?n ?d ?e ?p ?c); (case m => assumption); (case b => wtm_at "boot"); (case f => trivial); (case k => wtm_at "keptb"); (case kk => rfl); (case n => decide); (case d => decide); (case e => rfl); (case p => rfl); (case c => rfl))
  | ((with_reducible refine' EJ.callG ?m ?k ?_ ?kk ?d ?e ?p ?c); (case m => assumption); (case k => assumption); (case kk => rfl); (case d => decide); (case e => rfl); (case p => rfl); (case c => rfl))
  | ((with_reducible refine' EJ.callV ?m ?k ?_ ?kk ?d ?e ?p ?c); (case kk => rfl); (case m => wtm_at "lk"); (case k => assumption); (case d => decide); (case e => rfl); (case p => rfl); (case c => rfl))
  | with_reducible refine EJ.listN ?_
  | with_reducible refine EJ.tupleN ?_
  | ((with_reducible refine' EJ.sliceN ?_ ?s); (case s => wtm_at "ops"))
  | ((with_reducible refine' EJ.revN ?_ ?s); (case s => wtm_at "ops"))
  | ((with_reducible refine' EJ.item ?_ ?s); (case s => wtm_at "rf"))
  | with_reducible refine PJ.noneI ?_
  | with_reducible refine PJ.someI ?_
  | ((with_reducible refine' LJ.cons ?_ ?e); (case e => rfl))
  | with_reducible refine LJ.nil ?_
  | ((with_reducible refine' TJ.cmp ?_ ?m); (case m => wtm_at "rf"))
  | with_reducible refine TJ.not ?_
  | with_reducible refine TJ.and2 ?_
  | with_reducible refine TJ.or2 ?_
  | with_reducible refine BO.add ?_
  | with_reducible refine BO.sub ?_
  | with_reducible refine BO.iadd ?_
  | with_reducible refine BO.isub ?_
  | with_reducible refine BO.and ?_
  | with_reducible refine BO.or ?_
  | with_reducible refine BO.ior ?_
  | with_reducible refine BO.eq ?_
  | with_reducible refine BO.ne ?_
  | with_reducible refine BO.lt ?_
  | with_reducible refine BO.le ?_
  | with_reducible refine BO.gt ?_
  | with_reducible refine BO.ge ?_
  | with_reducible refine UO.neg ?_
  | with_reducible refine ⟨_, rfl, ?_⟩)
-- a statement
local macro_rules | `(tactic| wtm_at "s1") => `(tactic| first
  | ((with_reducible refine' SJ.assign ?_ ?k ?s); (case k => rfl); (case s => wtm_at "rf"))
  | ((with_reducible refine' SJ.aug ?v ?k ?_); (case k => rfl); (case v => wtm_at "lk"))
  | ((with_reducible refine' SJ.setItem ?_ ?s); (case s => wtm_at "rf"))
  | ((with_reducible refine' SJ.swap2 ?hh ?_ ?k ?k2 ?s ?w); (case w => wtm_at "rf"); (case hh => assumption); (case k => rfl); (case k2 => rfl); (case s => wtm_at "rf"))
  | ((with_reducible refine' SJ.swap3 ?hh ?_ ?k ?k2 ?k3 ?s ?w); (case w => wtm_at "rf"); (case hh => assumption); (case k => rfl); (case k2 => rfl); (case k3 => rfl); (case s => wtm_at "rf"))
  | ((with_reducible refine' SJ.unpack2 ?hh ?_ ?k ?k2 ?s ?w); (case w => wtm_at "rf"); (case hh => assumption); (case k => rfl); (case k2 => rfl); (case s => wtm_at "rf"))
  | ((with_reducible refine' SJ.append ?_ ?h1 ?h2 ?h3 ?h4 ?h5 ?h6); (case h1 => wtm_at "rf"); (case h2 => wtm_at "rf"); (case h3 => wtm_at "rf"); (case h4 => wtm_at "rf"); (case h5 => wtm_at "rf"); (case h6 => wtm_at "rf"))
  | with_reducible refine SJ.if_ ?_
  | ((with_reducible refine' SJ.for_ ?h ?_ ?s); (case h => assumption); (case s => wtm_at "rf"))
  | with_reducible refine SJ.retC ?_
  | with_reducible refine SJ.ret ?_
  | with_reducible refine SJ.nilC ?_
  | with_reducible refine SJ.nil ?_)

-- an iterable
local macro_rules | `(tactic| wtm_at "i1") => `(tactic| first
  | ((with_reducible refine' IJ.range _ rfl ?b ?k ?_ ?e ?p ?c); (case b => assumption); (case k => rfl); (case e => rfl); (case p => rfl); (case c => rfl))
  | ((with_reducible refine' IJ.enum ?b ?k ?_ ?e ?c); (case b => assumption); (case k => rfl); (case e => rfl); (case c => rfl))
  | ((with_reducible refine' IJ.zip ?b ?k ?_ ?e ?p ?c); (case b => assumption); (case k => rfl); (case e => rfl); (case p => rfl); (case c => rfl))
  | with_reducible refine IJ.list ?_)

local macro_rules | `(tactic| wtm_at "nrm") => `(tactic| simp only [Int.toNat_natCast, Int.one_mul, kbt_mask, List.length_map])
local macro_rules | `(tactic| wtm_at "vs") => `(tactic| simp only [List.zip_cons_cons, List.zip_nil_left, List.zip_nil_right, List.reverse_cons, List.reverse_nil, List.nil_append, List.cons_append, List.map_cons, List.map_nil, VM.sets])
local macro_rules | `(tactic| wtm_at "bs") => `(tactic| first | refine BO.shl (by (first | lia | omega)) (by simp only [ib1]; (first | lia | omega)) ?_ | refine BO.ishr (by (first | lia | omega)) ?_ | refine BO.shr (by (first | lia | omega)) ?_)
local macro_rules | `(tactic| wtm_at "comp") => `(tactic| ((with_reducible refine' EJ.comp ?hh (compOk_of ?eo ?c1 ?c2) ?s ?_); (case hh => assumption); (case eo => assumption); (case c1 => with_unfolding_all rfl); (case c2 => with_unfolding_all rfl); (case s => wtm_at "rf"); unfold CompJ))
local macro_rules | `(tactic| wtm_at "t1") => `(tactic| ((refine' ⟨_, TgtOk.one ?k (StX.loc ?l), cells_set ?l2 ?hv, ?_⟩); (case k => rfl); (case l => rfl); (case l2 => rfl); (case hv => assumption)))
local macro_rules | `(tactic| wtm_at "t2") => `(tactic| ((refine' ⟨_, TgtOk.pair ?k ?k2 (StX.loc ?l) (StX.loc ?m), cells_set ?l2 (cells_set ?m2 ?hv), ?_⟩); (case k => rfl); (case k2 => rfl); (case l => rfl); (case m => rfl); (case l2 => rfl); (case m2 => rfl); (case hv => assumption)))
local macro_rules | `(tactic| wtm_at "sz") => `(tactic| first | exact szlit rfl | exact szI (by (first | lia | omega)) | exact szL (by (first | lia | omega)) | (simp [sizeLine]; done) | (simp [sizeLine]; (first | lia | omega)))
local macro_rules | `(tactic| wtm_at "ln") => `(tactic| first | exact lt62 (by (first | lia | omega)) | (simp; (first | lia | omega)))



theorem take_succ_snoc {α : Type} {l : List α} {n : Nat} {x : α} (h : l[n]? = some x) : l.take (n + 1) = l.take n ++ [x] := by rw [List.take_add_one, h]; rfl

/-- the text's functions, by the number of their statement; the built-ins are not bound -/
structure FsOk (C : Cx) (F : Nat → Addr) : Prop where
  f : ∀ i ∈ [3, 4, 5, 6, 7, 8, 9, 11, 12, 13, 14, 15, 17, 18, 19, 20, 21, 22, 23, 25, 26, 27, 28, 29, 30], IsF C i (F i)
  b : ∀ x ∈ (["len", "range", "enumerate", "zip", "min", "abs", "int", "sum", "any", "repr"] : List Str), C.mg x = none
theorem FsOk.n {C : Cx} {F : Nat → Addr} (X : FsOk C F) {i : Nat} (hi : i ∈ [3, 4, 5, 6, 7, 8, 9, 11, 12, 13, 14, 15, 17, 18, 19, 20, 21, 22, 23, 25, 26, 27, 28, 29, 30]) {name : Str} (e : (defAt i).map (·.1) = some name) :
    C.mg name = some (.ref (F i)) := (X.f i hi).ns e
theorem FsOk.k {C : Cx} {F : Nat → Addr} (X : FsOk C F) {i : Nat} (hi : i ∈ [3, 4, 5, 6, 7, 8, 9, 11, 12, 13, 14, 15, 17, 18, 19, 20, 21, 22, 23, 25, 26, 27, 28, 29, 30]) : KeptF C (.ref (F i)) := (X.f i hi).kept

theorem normal_spec {C : Cx} {A : Around} {H : AH} {F : Nat → Addr} {a : Addr} {ns : List Int} {Q : AV → AH → Prop} (X : FsOk C F) (hA : Room 1 A) (ha : H a = some (.list (ns.map .int)))
    (hn : ns.length ≤ 1000) (q : ∀ H' r, AH.le H H' → LI H' (.ref r) (normalL ns) → Q (.ref r) H') : CJ C A (.ref (F 3)) H [.ref a] Q := by
  have hlen := X.b "len" (by decide)
  refine CJ.def_ (k := 0) ["a"] (X.f 3 (by decide)) hA (by with_unfolding_all rfl) ?_ (by decide) (by rfl) (by rfl) (by rfl) ?_
  · intro doc pm cdv ct an vals hl
    match vals, hl with
    | [v], _ => rfl
  · intro A' L cd r eo
    simp only [List.zip_cons_cons, List.zip_nil_left, VM.sets]
    wtm_at "s1"
    repeat wtm_at "e1"
    refine CJ.len ha (by wtm_at "ln") ?_
    refine SJ.while_ ns.length (fun n V' H' => V' "a" = some (.ref a) ∧ V' "end" = some (.int n) ∧ H' = H ∧ n ≤ ns.length ∧ normalL ns = normalL (ns.take n)) ⟨by wtm_at "lk", by simp [VM.set], rfl, Nat.le_refl _, by simp⟩ ?_
    rintro n V' H' ⟨va, ve, rfl, hle, hnorm⟩
    repeat wtm_at "e1"
    by_cases h0 : (0 : Int) < n
    · rw [decide_eq_true h0, if_pos rfl]
      have hk : n - 1 < ns.length := by (first | lia | omega)
      have hx : ns[n - 1]? = some ns[n - 1] := List.getElem?_eq_getElem hk
      have hnn : n - 1 + 1 = n := by (first | lia | omega)
      have htk := take_succ_snoc hx
      rw [hnn] at htk
      repeat wtm_at "e1"
      refine ⟨_, _, _, .int ns[n - 1], rfl, rfl, ha, .inl ⟨by (first | lia | omega), by (first | lia | omega), ?_⟩, ?_⟩
      · rw [show ((n : Int) - 1).toNat = n - 1 by (first | lia | omega), List.getElem?_map, hx]; rfl
      repeat wtm_at "e1"
      by_cases h1 : ns[n - 1] = 0
      · rw [show (ns[n - 1] == 0) = true by simp [h1], if_pos rfl]
        repeat wtm_at "s1"
        repeat wtm_at "e1"
        wtm_at "s1"
        refine ⟨n - 1, by (first | lia | omega), by wtm_at "lk", ?_, rfl, by (first | lia | omega), ?_⟩
        · rw [VM.set_self, show ((n : Int) - 1) = ((n - 1 : Nat) : Int) by (first | lia | omega)]
        · rw [hnorm, htk, h1, normalL_snoc0]
      · rw [show (ns[n - 1] == 0) = false by simp [h1], if_neg Bool.false_ne_true]
        wtm_at "s1"
        repeat wtm_at "e1"
        refine ⟨_, _, rfl, .inl ha, by wtm_at "sz", fun b H₂ hb hle₂ hb₂ => q H₂ b hle₂ (LI.iff.mpr ⟨b, rfl, ?_⟩)⟩
        rw [hb₂, hnorm, htk, normalL_snoc _ h1, ← htk, sl_upto, List.map_take]
    · rw [decide_eq_false h0, if_neg Bool.false_ne_true]
      rw [if_neg Bool.false_ne_true]
      have : n = 0 := by (first | lia | omega)
      subst this
      wtm_at "s1"
      repeat wtm_at "e1"
      refine ⟨_, _, rfl, .inl ha, by wtm_at "sz", fun b H₂ hb hle₂ hb₂ => q H₂ b hle₂ (LI.iff.mpr ⟨b, rfl, ?_⟩)⟩
      rw [hb₂, hnorm, sl_upto]
      simp [normalL]



theorem rangeSize_down (n : Nat) : Builtin.Range.rangeSize ((n : Int) - 1) (-1) (-1) = n := by
  unfold Builtin.Range.rangeSize
  rw [if_neg (by decide)]
  split
  · rw [show (-(-1 : Int)) = 1 by rfl, Int.ediv_one]; (first | lia | omega)
  · (first | lia | omega)
theorem rangeSize_up (a b : Int) : (Builtin.Range.rangeSize a b 1).toNat = (b - a).toNat := by
  unfold Builtin.Range.rangeSize
  rw [if_pos (by decide)]
  split
  · rw [Int.ediv_one]; (first | lia | omega)
  · (first | lia | omega)
theorem getI {xs : List Int} {i : Nat} {x : Int} (h : xs[i]? = some x) : (xs.map AV.int)[i]? = some (.int x) := by rw [List.getElem?_map, h]; rfl

theorem bits_spec {C : Cx} {A : Around} {H : AH} {F : Nat → Addr} {a : Addr} {x : Int} {w : Int} {Q : AV → AH → Prop} (X : FsOk C F) (hA : Room 1 A) (ha : H a = some (.list [.int x])) (hw : w.natAbs < 1000)
    (q : Q (.int (Builtin.Int.intBits x)) H) : CJ C A (.ref (F 9)) H [.ref a, .int w] Q := by
  have hlen := X.b "len" (by decide)
  refine CJ.def_ (k := 0) ["a", "w"] (X.f 9 (by decide)) hA (by with_unfolding_all rfl) ?_ (by decide) (by rfl) (by rfl) (by rfl) ?_
  · intro doc pm cdv ct an vals hl
    obtain ⟨_, _, rfl⟩ := len2 hl
    rfl
  · intro A' L cd r eo
    simp only [List.zip_cons_cons, List.zip_nil_left, VM.sets]
    wtm_at "s1"
    repeat wtm_at "e1"
    refine CJ.len ha (by simp) ?_
    repeat wtm_at "e1"
    rw [show decide ((0 : Int) < (([AV.int x].length : Nat) : Int)) = true by rfl, if_pos rfl]
    repeat wtm_at "e1"
    refine CJ.len ha (by simp) ?_
    repeat wtm_at "e1"
    refine BO.mul ?_ ?_
    · exact .of_left (by simp; decide)
    refine EJ.bitlen ?_ rfl rfl
    repeat wtm_at "e1"
    refine ⟨_, _, _, _, rfl, rfl, ha, .inr ⟨by (first | lia | omega), by simp, by (first | lia | omega), rfl⟩, ⟨_, rfl, ?_⟩⟩
    repeat wtm_at "e1"
    simpa using q

theorem compare_spec {C : Cx} {A : Around} {H : AH} {F : Nat → Addr} {a b : Addr} {xs ys : List Int} {B : Int} {Q : AV → AH → Prop} (X : FsOk C F) (hA : Room 1 A) (ha : H a = some (.list (xs.map .int))) (hb : H b = some (.list (ys.map .int)))
    (hx : xs.length ≤ 1000) (hy : ys.length ≤ 1000) (hB : 2 ≤ B) (lx : Limbs B xs) (ly : Limbs B ys) (nx : Norm xs) (ny : Norm ys) (q : ∀ r, (r < 0 ↔ num B xs < num B ys) → Q (.int r) H) : CJ C A (.ref (F 4)) H [.ref a, .ref b] Q := by
  have hlen := X.b "len" (by decide)
  have hrange := X.b "range" (by decide)
  refine CJ.def_ (k := 0) ["a", "b"] (X.f 4 (by decide)) hA (by with_unfolding_all rfl) ?_ (by decide) (by rfl) (by rfl) (by rfl) ?_
  · intro doc pm cdv ct an vals hl
    obtain ⟨_, _, rfl⟩ := len2 hl
    rfl
  · intro A' L cd r eo
    have hh := r.handled
    simp only [List.zip_cons_cons, List.zip_nil_left, VM.sets]
    wtm_at "s1"
    repeat wtm_at "e1"
    refine CJ.len ha (by wtm_at "ln") ?_
    repeat wtm_at "e1"
    refine CJ.len hb (by wtm_at "ln") ?_
    repeat wtm_at "e1"
    simp only [List.length_map]
    by_cases he : xs.length = ys.length
    · rw [show ((xs.length : Int) != (ys.length : Int)) = false by simp [he], if_neg Bool.false_ne_true]
      wtm_at "s1"
      wtm_at "s1"
      wtm_at "i1"
      repeat wtm_at "e1"
      refine CJ.len ha (by wtm_at "ln") ?_
      repeat wtm_at "e1"
      refine ⟨_, _, _, .inr (.inr rfl), by simp; (first | lia | omega), by decide, by decide, by decide, ?_⟩
      rw [List.length_map, rangeSize_down]
      refine ⟨xs.length, fun k V' H' => V' "a" = some (.ref a) ∧ V' "b" = some (.ref b) ∧ H' = H ∧ xs.drop (xs.length - k) = ys.drop (ys.length - k), ⟨by wtm_at "lk", by wtm_at "lk", rfl, by simp⟩, ?_, ?_⟩
      · rintro k V' H' hk ⟨va, vb, rfl, hd⟩
        refine ⟨_, _, by simp only [itemAt]; rw [if_pos (by simpa using hk)], TgtOk.one rfl StX.fr, ?_⟩
        obtain ⟨x, hx'⟩ : ∃ x, xs[xs.length - 1 - k]? = some x := ⟨_, List.getElem?_eq_getElem (by (first | lia | omega))⟩
        obtain ⟨y, hy'⟩ : ∃ y, ys[xs.length - 1 - k]? = some y := ⟨_, List.getElem?_eq_getElem (by (first | lia | omega))⟩
        have ei : ((xs.length : Int) - 1 + (k : Int) * -1).toNat = xs.length - 1 - k := by (first | lia | omega)
        wtm_at "s1"
        repeat wtm_at "e1"
        refine ⟨_, _, _, _, rfl, rfl, ha, .inl ⟨by (first | lia | omega), by (first | lia | omega), by rw [ei]; exact getI hx'⟩, ?_⟩
        repeat wtm_at "e1"
        refine ⟨_, _, _, _, rfl, rfl, hb, .inl ⟨by (first | lia | omega), by (first | lia | omega), by rw [ei]; exact getI hy'⟩, ?_⟩
        repeat wtm_at "e1"
        have hk1 : xs.length - 1 - k + 1 = xs.length - k := by (first | lia | omega)
        have hd' : xs.drop (xs.length - 1 - k + 1) = ys.drop (xs.length - 1 - k + 1) := by rw [hk1, hd, he]
        by_cases hxy : x = y
        · rw [show (x != y) = false by simp [hxy], if_neg Bool.false_ne_true]
          repeat wtm_at "s1"
          refine ⟨by wtm_at "lk", by wtm_at "lk", rfl, ?_⟩
          rw [show xs.length - (k + 1) = xs.length - 1 - k by (first | lia | omega), show ys.length - (k + 1) = xs.length - 1 - k by (first | lia | omega), List.drop_eq_getElem_cons (l := xs) (i := xs.length - 1 - k) (by (first | lia | omega)), List.drop_eq_getElem_cons (l := ys) (i := xs.length - 1 - k) (by (first | lia | omega)), hd', (List.getElem?_eq_some_iff.mp hx').2, (List.getElem?_eq_some_iff.mp hy').2, hxy]
        · rw [show (x != y) = true by simp [hxy], if_pos rfl]
          wtm_at "s1"
          repeat wtm_at "e1"
          refine ⟨_, _, _, _, rfl, rfl, ha, .inl ⟨by (first | lia | omega), by (first | lia | omega), by rw [ei]; exact getI hx'⟩, ?_⟩
          repeat wtm_at "e1"
          refine ⟨_, _, _, _, rfl, rfl, hb, .inl ⟨by (first | lia | omega), by (first | lia | omega), by rw [ei]; exact getI hy'⟩, ?_⟩
          repeat wtm_at "e1"
          by_cases hlt : x < y
          · rw [decide_eq_true hlt, if_pos rfl]
            repeat wtm_at "e1"
            refine q _ ?_
            have := cmp_top hB lx ly hx' hy' hd' hlt
            (first | lia | omega)
          · rw [decide_eq_false hlt, if_neg Bool.false_ne_true]
            repeat wtm_at "e1"
            refine q _ ?_
            have := cmp_top hB ly lx hy' hx' hd'.symm (by (first | lia | omega))
            (first | lia | omega)
      · rintro V' H' ⟨va, vb, rfl, hd⟩
        refine ⟨by simp [itemAt], ?_⟩
        wtm_at "s1"
        repeat wtm_at "e1"
        refine q 0 ?_
        rw [← he, Nat.sub_self, List.drop_zero, List.drop_zero] at hd
        rw [hd]
        (first | lia | omega)
    · rw [show ((xs.length : Int) != (ys.length : Int)) = true by simp; (first | lia | omega), if_pos rfl]
      wtm_at "s1"
      repeat wtm_at "e1"
      refine CJ.len ha (by wtm_at "ln") ?_
      repeat wtm_at "e1"
      refine CJ.len hb (by wtm_at "ln") ?_
      repeat wtm_at "e1"
      simp only [List.length_map]
      by_cases hlt : xs.length < ys.length
      · rw [show decide ((xs.length : Int) < (ys.length : Int)) = true by simp [hlt], if_pos rfl]
        repeat wtm_at "e1"
        refine q _ ?_
        have := cmp_len hB lx ly ny hlt
        (first | lia | omega)
      · rw [show decide ((xs.length : Int) < (ys.length : Int)) = false by simp; (first | lia | omega), if_neg Bool.false_ne_true]
        repeat wtm_at "e1"
        refine q _ ?_
        have := cmp_len hB ly lx nx (by (first | lia | omega))
        (first | lia | omega)


theorem two_le_pow {w : Nat} (h : 1 ≤ w) : (2 : Int) ≤ 2 ^ w := by
  have := pow_le_pow' (B := 2) (by (first | lia | omega)) h
  simpa using this


theorem add_spec {C : Cx} {A : Around} {H : AH} {F : Nat → Addr} {a b : Addr} {xs ys : List Int} {w : Nat} {Q : AV → AH → Prop} (X : FsOk C F) (hA : Room 1 A) (ha : H a = some (.list (xs.map .int))) (hb : H b = some (.list (ys.map .int)))
    (hx : xs.length ≤ 1000) (hy : ys.length ≤ 1000) (hw : 1 ≤ w) (hw2 : w ≤ 64) (lx : Limbs (2 ^ w) xs) (ly : Limbs (2 ^ w) ys)
    (q : ∀ H' r zs, AH.le H H' → LI H' (.ref r) zs → Limbs (2 ^ w) zs → num (2 ^ w) zs = num (2 ^ w) xs + num (2 ^ w) ys → zs.length ≤ 1 + max xs.length ys.length → Q (.ref r) H') : CJ C A (.ref (F 5)) H [.ref a, .ref b, .int w] Q := by
  have hlen := X.b "len" (by decide)
  have hrange := X.b "range" (by decide)
  have hB := two_le_pow hw
  refine CJ.def_ (k := 0) ["a", "b", "w"] (X.f 5 (by decide)) hA (by with_unfolding_all rfl) ?_ (by decide) (by rfl) (by rfl) (by rfl) ?_
  · intro doc pm cdv ct an vals hl
    obtain ⟨_, _, _, rfl⟩ := len3 hl
    rfl
  · intro A' L cd r eo
    have hh := r.handled
    wtm_at "vs"
    refine SJ.ifJ (fun V' H' => ∃ a' b' xs' ys', V' "a" = some (.ref a') ∧ V' "b" = some (.ref b') ∧ V' "w" = some (.int w) ∧ AH.le H H' ∧ H' a' = some (.list (xs'.map .int)) ∧ H' b' = some (.list (ys'.map .int)) ∧
      Limbs (2 ^ w) xs' ∧ Limbs (2 ^ w) ys' ∧ ys'.length ≤ xs'.length ∧ xs'.length = max xs.length ys.length ∧ num (2 ^ w) xs' + num (2 ^ w) ys' = num (2 ^ w) xs + num (2 ^ w) ys) ?_ ?_
    · repeat wtm_at "e1"
      refine CJ.len ha (by wtm_at "ln") ?_
      repeat wtm_at "e1"
      refine CJ.len hb (by wtm_at "ln") ?_
      repeat wtm_at "e1"
      wtm_at "nrm"
      by_cases hlt : xs.length < ys.length
      · rw [show decide ((xs.length : Int) < (ys.length : Int)) = true by simp [hlt], if_pos rfl]
        wtm_at "s1"
        repeat wtm_at "e1"
        refine ⟨by wtm_at "sz", fun t H₁ ht hle htt => ⟨t, _, _, rfl, htt, ?_⟩⟩
        wtm_at "s1"
        exact ⟨b, a, ys, xs, by wtm_at "lk", by wtm_at "lk", by wtm_at "lk", hle, hle _ _ hb, hle _ _ ha, ly, lx, by (first | lia | omega), by (first | lia | omega), by (first | lia | omega)⟩
      · rw [show decide ((xs.length : Int) < (ys.length : Int)) = false by simp; (first | lia | omega), if_neg Bool.false_ne_true]
        wtm_at "s1"
        exact ⟨a, b, xs, ys, by wtm_at "lk", by wtm_at "lk", by wtm_at "lk", AH.le_refl, ha, hb, lx, ly, by (first | lia | omega), by (first | lia | omega), by (first | lia | omega)⟩
    intro V₁ H₁ hJ
    refine xe4 hJ fun a' b' xs' ys' hI => el11 hI fun va vb vw hle ha' hb' lx' ly' hyx hmax hsum => ?_
    clear hI hJ
    wtm_at "s1"
    repeat wtm_at "e1"
    refine ⟨by wtm_at "sz", fun f H₂ hf hle₂ hff => ?_⟩
    repeat wtm_at "e1"
    wtm_at "bs"
    repeat wtm_at "e1"
    refine ⟨by wtm_at "sz", fun t H₃ ht hle₃ htt => ⟨t, _, _, _, rfl, htt, ?_⟩⟩
    wtm_at "nrm"
    have hf₃ := hle₃ _ _ hff
    have hb₃ := hle₃ _ _ (hle₂ _ _ hb')
    have ha₃ := hle₃ _ _ (hle₂ _ _ ha')
    have hle₁₃ := hle₂.trans hle₃
    -- the first loop
    wtm_at "s1"
    wtm_at "i1"
    repeat wtm_at "e1"
    refine CJ.len hb₃ (by wtm_at "ln") ?_
    repeat wtm_at "e1"
    refine ⟨_, _, _, .inl ⟨rfl, rfl, rfl⟩, by decide, by simp; (first | lia | omega), by decide, by decide, ?_⟩
    rw [rangeSize_up]
    wtm_at "nrm"
    refine ⟨ys'.length, fun k V' H' => ∃ fs c, V' "a" = some (.ref a') ∧ V' "b" = some (.ref b') ∧ V' "w" = some (.int w) ∧ V' "found" = some (.ref f) ∧ V' "carry" = some (.int c) ∧ V' "mask" = some (.int (2 ^ w - 1)) ∧ AH.le H₁ H' ∧ H' f = some (.list (fs.map .int)) ∧
      Limbs (2 ^ w) fs ∧ fs.length = k ∧ 0 ≤ c ∧ c ≤ 1 ∧ num (2 ^ w) fs + (2 ^ w) ^ k * c = num (2 ^ w) (xs'.take k) + num (2 ^ w) (ys'.take k),
      ⟨[], 0, by wtm_at "lk", by wtm_at "lk", by wtm_at "lk", by wtm_at "lk", by wtm_at "lk", by wtm_at "lk", hle₁₃, hf₃, (fun x hx => nomatch hx), rfl, by (first | lia | omega), by (first | lia | omega), by simp [num]⟩, ?_, ?_⟩
    · intro k V' H' hk hJ
      refine xe2 hJ fun fs c hI => el13 hI fun va' vb' vw' vf vc vm hle' hf' lf hfl hc0 hc1 hnum => ?_
      clear hI hJ
      refine ⟨_, _, by simp only [itemAt]; rw [if_pos (by (first | lia | omega))], TgtOk.one rfl StX.fr, ?_⟩
      obtain ⟨x, hx'⟩ : ∃ x, xs'[k]? = some x := ⟨_, List.getElem?_eq_getElem (by (first | lia | omega))⟩
      obtain ⟨y, hy'⟩ : ∃ y, ys'[k]? = some y := ⟨_, List.getElem?_eq_getElem (by (first | lia | omega))⟩
      have ei : ((0 : Int) + (k : Int) * 1).toNat = k := by (first | lia | omega)
      wtm_at "s1"
      repeat wtm_at "e1"
      refine ⟨_, _, _, _, rfl, rfl, hle' _ _ ha', .inl ⟨by (first | lia | omega), by (first | lia | omega), by rw [ei]; exact getI hx'⟩, ?_⟩
      repeat wtm_at "e1"
      refine ⟨_, _, _, _, rfl, rfl, hle' _ _ hb', .inl ⟨by (first | lia | omega), by (first | lia | omega), by rw [ei]; exact getI hy'⟩, ?_⟩
      repeat wtm_at "e1"
      wtm_at "s1"
      repeat wtm_at "e1"
      refine ⟨_, _, rfl, hf', ?_⟩
      repeat wtm_at "e1"
      refine ⟨_, hf', by wtm_at "sz", ?_⟩
      wtm_at "nrm"
      repeat wtm_at "s1"
      repeat wtm_at "e1"
      wtm_at "bs"
      wtm_at "s1"
      have hxb := lx'.get hx'
      have hyb := ly'.get hy'
      rw [Int.toNat_natCast, Int.fdiv_eq_ediv_of_nonneg _ (show (0 : Int) ≤ 2 ^ w by (first | lia | omega))]
      have hm0 := Int.emod_nonneg (c + (x + y)) (show (2 : Int) ^ w ≠ 0 by (first | lia | omega))
      have hm1 := Int.emod_lt_of_pos (c + (x + y)) (show (0 : Int) < 2 ^ w by (first | lia | omega))
      have hem := Int.emod_add_mul_ediv (c + (x + y)) (2 ^ w)
      have hd0 := Int.ediv_nonneg (show 0 ≤ c + (x + y) by (first | lia | omega)) (show (0 : Int) ≤ 2 ^ w by (first | lia | omega))
      have hd1 : (c + (x + y)) / 2 ^ w < 2 := Int.ediv_lt_of_lt_mul (by (first | lia | omega)) (by (first | lia | omega))
      refine ⟨fs ++ [(c + (x + y)) % 2 ^ w], _, by wtm_at "lk", by wtm_at "lk", by wtm_at "lk", by wtm_at "lk", by wtm_at "lk", by wtm_at "lk", AH.le_write hle' hf, by rw [AH.set_self]; simp, lf.snoc ⟨hm0, hm1⟩, by simp [hfl], hd0, by (first | lia | omega), ?_⟩
      rw [num_snoc, num_take_succ _ hx', num_take_succ _ hy', hfl, Int.pow_succ]
      have e1 : (2 ^ w : Int) ^ k * (c + (x + y)) = (2 ^ w) ^ k * ((c + (x + y)) % 2 ^ w + 2 ^ w * ((c + (x + y)) / 2 ^ w)) := by rw [hem]
      grind
    · intro V₄ H₄ hJ
      refine xe2 hJ fun fs c hI => el13 hI fun va' vb' vw' vf vc vm hle' hf' lf hfl hc0 hc1 hnum => ?_
      clear hI hJ
      refine ⟨by simp [itemAt], ?_⟩
      have htk : ys'.take ys'.length = ys' := List.take_length
      rw [htk] at hnum
      -- the second loop
      wtm_at "s1"
      wtm_at "i1"
      repeat wtm_at "e1"
      refine CJ.len (hle' _ _ hb') (by wtm_at "ln") ?_
      repeat wtm_at "e1"
      refine CJ.len (hle' _ _ ha') (by wtm_at "ln") ?_
      repeat wtm_at "e1"
      refine ⟨_, _, _, .inr (.inl ⟨rfl, rfl⟩), by simp; (first | lia | omega), by simp; (first | lia | omega), by decide, by decide, ?_⟩
      rw [rangeSize_up]
      wtm_at "nrm"
      refine ⟨xs'.length - ys'.length, fun k V' H' => ∃ fs c, V' "a" = some (.ref a') ∧ V' "w" = some (.int w) ∧ V' "found" = some (.ref f) ∧ V' "carry" = some (.int c) ∧ V' "mask" = some (.int (2 ^ w - 1)) ∧ AH.le H₁ H' ∧ H' f = some (.list (fs.map .int)) ∧
        Limbs (2 ^ w) fs ∧ fs.length = ys'.length + k ∧ 0 ≤ c ∧ c ≤ 1 ∧ num (2 ^ w) fs + (2 ^ w) ^ (ys'.length + k) * c = num (2 ^ w) (xs'.take (ys'.length + k)) + num (2 ^ w) ys',
        ⟨fs, c, va', vw', vf, vc, vm, hle', hf', lf, by (first | lia | omega), hc0, hc1, by simpa using hnum⟩, ?_, ?_⟩
      · intro k V' H' hk hJ
        refine xe2 hJ fun fs c hI => el12 hI fun va' vw' vf vc vm hle' hf' lf hfl hc0 hc1 hnum => ?_
        clear hI hJ
        refine ⟨_, _, by simp only [itemAt]; rw [if_pos (by (first | lia | omega))], TgtOk.one rfl StX.fr, ?_⟩
        obtain ⟨x, hx'⟩ : ∃ x, xs'[ys'.length + k]? = some x := ⟨_, List.getElem?_eq_getElem (by (first | lia | omega))⟩
        have ei : ((ys'.length : Int) + (k : Int) * 1).toNat = ys'.length + k := by (first | lia | omega)
        wtm_at "s1"
        repeat wtm_at "e1"
        refine ⟨_, _, _, _, rfl, rfl, hle' _ _ ha', .inl ⟨by (first | lia | omega), by (first | lia | omega), by rw [ei]; exact getI hx'⟩, ?_⟩
        repeat wtm_at "e1"
        wtm_at "s1"
        repeat wtm_at "e1"
        refine ⟨_, _, rfl, hf', ?_⟩
        repeat wtm_at "e1"
        refine ⟨_, hf', by wtm_at "sz", ?_⟩
        wtm_at "nrm"
        repeat wtm_at "s1"
        repeat wtm_at "e1"
        wtm_at "bs"
        wtm_at "s1"
        have hxb := lx'.get hx'
        rw [Int.toNat_natCast, Int.fdiv_eq_ediv_of_nonneg _ (show (0 : Int) ≤ 2 ^ w by (first | lia | omega))]
        have hm0 := Int.emod_nonneg (c + x) (show (2 : Int) ^ w ≠ 0 by (first | lia | omega))
        have hm1 := Int.emod_lt_of_pos (c + x) (show (0 : Int) < 2 ^ w by (first | lia | omega))
        have hem := Int.emod_add_mul_ediv (c + x) (2 ^ w)
        have hd0 := Int.ediv_nonneg (show 0 ≤ c + x by (first | lia | omega)) (show (0 : Int) ≤ 2 ^ w by (first | lia | omega))
        have hd1 : (c + x) / 2 ^ w < 2 := Int.ediv_lt_of_lt_mul (by (first | lia | omega)) (by (first | lia | omega))
        refine ⟨fs ++ [(c + x) % 2 ^ w], _, by wtm_at "lk", by wtm_at "lk", by wtm_at "lk", by wtm_at "lk", by wtm_at "lk", AH.le_write hle' hf, by rw [AH.set_self]; simp, lf.snoc ⟨hm0, hm1⟩, by simp [hfl]; (first | lia | omega), hd0, by (first | lia | omega), ?_⟩
        rw [num_snoc, ← Nat.add_assoc, num_take_succ _ hx', hfl, Int.pow_succ]
        have e1 : (2 ^ w : Int) ^ (ys'.length + k) * (c + x) = (2 ^ w) ^ (ys'.length + k) * ((c + x) % 2 ^ w + 2 ^ w * ((c + x) / 2 ^ w)) := by rw [hem]
        grind
      · intro V₅ H₅ hJ
        refine xe2 hJ fun fs c hI => el12 hI fun va' vw' vf vc vm hle' hf' lf hfl hc0 hc1 hnum => ?_
        clear hI hJ
        refine ⟨by simp [itemAt], ?_⟩
        have e1 : ys'.length + (xs'.length - ys'.length) = xs'.length := by (first | lia | omega)
        rw [e1] at hfl hnum
        rw [List.take_length] at hnum
        refine SJ.ifJ (fun V' H' => ∃ zs, V' "found" = some (.ref f) ∧ AH.le H₁ H' ∧ H' f = some (.list (zs.map .int)) ∧ Limbs (2 ^ w) zs ∧ num (2 ^ w) zs = num (2 ^ w) xs + num (2 ^ w) ys ∧ zs.length ≤ 1 + max xs.length ys.length) ?_ ?_
        · repeat wtm_at "e1"
          by_cases h0 : 0 < c
          · rw [decide_eq_true h0, if_pos rfl]
            wtm_at "s1"
            repeat wtm_at "e1"
            refine ⟨_, _, rfl, hf', ?_⟩
            repeat wtm_at "e1"
            refine ⟨_, hf', by wtm_at "sz", ?_⟩
            wtm_at "s1"
            refine ⟨fs ++ [c], vf, AH.le_write hle' hf, by rw [AH.set_self]; simp, lf.snoc ⟨hc0, by (first | lia | omega)⟩, ?_, by simp; (first | lia | omega)⟩
            rw [num_snoc, hfl, hnum, hsum]
          · rw [decide_eq_false h0, if_neg Bool.false_ne_true]
            wtm_at "s1"
            have : c = 0 := by (first | lia | omega)
            subst this
            refine ⟨fs, vf, hle', hf', lf, ?_, by (first | lia | omega)⟩
            simpa [hsum] using hnum
        · intro V₆ H₆ hJ
          refine xe1 hJ fun zs hI => el6 hI fun vf hle₆ hf₆ lz hz hzl => ?_
          clear hI hJ
          wtm_at "s1"
          repeat wtm_at "e1"
          exact q H₆ f zs (hle.trans hle₆) (LI.iff.mpr ⟨f, rfl, hf₆⟩) lz hz hzl


theorem bitAnd_hi : ∀ (w : Nat) (q y : Int), 0 ≤ y → y < 2 ^ w → Builtin.bitAnd (q * 2 ^ w) y = 0
  | 0, q, y, h0, h1 => by
    have : y = 0 := by simp at h1; (first | lia | omega)
    subst this
    have := kbt_mask (q * 2 ^ 0) 0
    simpa using this
  | w + 1, q, y, h0, h1 => by
    rw [kbt_halves]
    have e1 : q * 2 ^ (w + 1) / 2 = q * 2 ^ w := by rw [Int.pow_succ, ← Int.mul_assoc]; exact Int.mul_ediv_cancel _ (by decide)
    have e2 : q * 2 ^ (w + 1) % 2 = 0 := by rw [Int.pow_succ, ← Int.mul_assoc]; exact Int.mul_emod_left _ _
    rw [Int.pow_succ] at h1
    rw [e1, e2, bitAnd_hi w q (y / 2) (by (first | lia | omega)) (by (first | lia | omega))]
    simp
theorem bitOr_sum (x y : Int) : Builtin.bitOr x y = x + y - Builtin.bitAnd x y := by
  have h := bitXor_and x y
  unfold Builtin.bitXor at h
  (first | lia | omega)
theorem bor_hi {w : Nat} {q y : Int} (h0 : 0 ≤ y) (h1 : y < 2 ^ w) : Builtin.bitOr (q * 2 ^ w) y = q * 2 ^ w + y := by rw [bitOr_sum, bitAnd_hi w q y h0 h1]; (first | lia | omega)
theorem bor_lo {w : Nat} {q y : Int} (h0 : 0 ≤ y) (h1 : y < 2 ^ w) : Builtin.bitOr y (q * 2 ^ w) = y + q * 2 ^ w := by rw [bitOr_sum, bitAnd_comm, bitAnd_hi w q y h0 h1]; (first | lia | omega)
theorem bits_lt {x : Int} {m : Nat} (h0 : 0 ≤ x) (h : x < 2 ^ m) : Builtin.Int.intBits x ≤ m := by
  refine intBits_le_iff.mpr ?_
  have : ((x.natAbs : Nat) : Int) < ((2 ^ m : Nat) : Int) := by rw [Int.natCast_pow]; show _ < (2 : Int) ^ m; (first | lia | omega)
  (first | lia | omega)
theorem pow2_30 {w : Nat} (h : w ≤ 29) : (2 : Int) ^ w < 1073741824 := by
  have := pow_le_pow' (B := 2) (by decide) h
  have e : (2 : Int) ^ 29 = 536870912 := by decide
  (first | lia | omega)


theorem divrem_limb_spec {C : Cx} {A : Around} {H : AH} {F : Nat → Addr} {a : Addr} {xs : List Int} {w : Nat} {d : Int} {Q : AV → AH → Prop} (X : FsOk C F) (hA : Room 2 A) (ha : H a = some (.list (xs.map .int)))
    (hx : xs.length ≤ 1000) (hw : 1 ≤ w) (hw2 : w ≤ 16) (lx : Limbs (2 ^ w) xs) (hd : 0 < d) (hd2 : d < 2 ^ w)
    (q : ∀ H' t g, AH.le H H' → H' t = some (.tup [.ref g, .int (num (2 ^ w) xs % d)]) → Q (.ref t) H') : CJ C A (.ref (F 6)) H [.ref a, .int d, .int w] Q := by
  have hlen := X.b "len" (by decide)
  have hrange := X.b "range" (by decide)
  have hnm : C.mg "normal" = _ := X.n (i := 3) (by decide) (by rfl)
  have hnk := X.k (i := 3) (by decide)
  have hB := two_le_pow hw
  have hB2 := pow2_30 (w := w) (by (first | lia | omega))
  refine CJ.def_ (k := 1) ["a", "limb", "w"] (X.f 6 (by decide)) hA (by with_unfolding_all rfl) ?_ (by decide) (by rfl) (by rfl) (by rfl) ?_
  · intro doc pm cdv ct an vals hl
    obtain ⟨_, _, _, rfl⟩ := len3 hl
    rfl
  · intro A' L cd r eo
    have hh := r.handled
    wtm_at "vs"
    wtm_at "s1"
    repeat wtm_at "e1"
    rw [show (d == 0) = false by simp; (first | lia | omega), if_neg Bool.false_ne_true]
    wtm_at "s1"
    wtm_at "s1"
    repeat wtm_at "e1"
    refine ⟨by wtm_at "sz", fun z H₀ hz hle₀ hzz => ?_⟩
    repeat wtm_at "e1"
    refine CJ.len (hle₀ _ _ ha) (by wtm_at "ln") ?_
    refine BO.mulN hzz (by simp; (first | lia | omega)) (by simp; (first | lia | omega)) fun f H₁ hf hle₁ hff => ?_
    repeat wtm_at "e1"
    refine ⟨by wtm_at "sz", fun t H₂ ht hle₂ htt => ⟨t, _, _, rfl, htt, ?_⟩⟩
    have hf₂ := hle₂ _ _ hff
    have hle₀₂ := hle₁.trans hle₂
    have hfn := AH.none_of hle₀ hf
    wtm_at "s1"
    wtm_at "i1"
    repeat wtm_at "e1"
    refine CJ.len (hle₀₂ _ _ (hle₀ _ _ ha)) (by wtm_at "ln") ?_
    repeat wtm_at "e1"
    refine ⟨_, _, _, .inr (.inr rfl), by simp; (first | lia | omega), by decide, by decide, by decide, ?_⟩
    rw [List.length_map, rangeSize_down]
    refine ⟨xs.length, fun k V' H' => ∃ fs : List Int, ∃ e : Int, V' "a" = some (.ref a) ∧ V' "w" = some (.int w) ∧ V' "limb" = some (.int d) ∧ V' "found" = some (.ref f) ∧ V' "rest" = some (.int e) ∧ AH.le H H' ∧ H' f = some (.list (fs.map .int)) ∧ fs.length = xs.length ∧
      e = num (2 ^ w) (xs.drop (xs.length - k)) % d, ⟨List.replicate xs.length 0, 0, by wtm_at "lk", by wtm_at "lk", by wtm_at "lk", by wtm_at "lk", by wtm_at "lk", hle₀.trans hle₀₂, by rw [hf₂]; simp, by simp, by simp [num]⟩, ?_, ?_⟩
    · intro k V' H' hk hJ
      refine xe2 hJ fun fs e hI => el9 hI fun va vw vd vf vr hle hfh hfl he => ?_
      clear hI hJ
      refine ⟨_, _, by simp only [itemAt]; rw [if_pos (by simpa using hk)], TgtOk.one rfl StX.fr, ?_⟩
      obtain ⟨x, hx'⟩ : ∃ x, xs[xs.length - 1 - k]? = some x := ⟨_, List.getElem?_eq_getElem (by (first | lia | omega))⟩
      have ei : ((xs.length : Int) - 1 + (k : Int) * -1) = ((xs.length - 1 - k : Nat) : Int) := by (first | lia | omega)
      have hxb := lx.get hx'
      have he0 : 0 ≤ e := by rw [he]; exact Int.emod_nonneg _ (by (first | lia | omega))
      have he1 : e < d := by rw [he]; exact Int.emod_lt_of_pos _ hd
      wtm_at "s1"
      repeat wtm_at "e1"
      refine BO.shl (by (first | lia | omega)) (by have := bits_lt (m := w) he0 (by (first | lia | omega)); (first | lia | omega)) ?_
      repeat wtm_at "e1"
      refine ⟨_, _, _, _, rfl, rfl, hle _ _ ha, by rw [ei]; exact itI (by (first | lia | omega)) (getI hx'), ?_⟩
      repeat wtm_at "e1"
      rw [Int.toNat_natCast, bor_hi hxb.1 hxb.2]
      wtm_at "s1"
      repeat wtm_at "e1"
      refine BO.div (by (first | lia | omega)) (by (first | lia | omega)) ?_
      repeat wtm_at "e1"
      refine ⟨_, _, xs.length - 1 - k, rfl, by rw [ei], hfh, lm1 (by (first | lia | omega)), lm2 (by (first | lia | omega)), ?_⟩
      rw [← List.map_set]
      wtm_at "s1"
      repeat wtm_at "e1"
      refine BO.imod (by (first | lia | omega)) ?_
      wtm_at "s1"
      refine ⟨_, _, by wtm_at "lk", by wtm_at "lk", by wtm_at "lk", by wtm_at "lk", by wtm_at "lk", AH.le_write hle hfn, AH.set_self, by simp [hfl], ?_⟩
      rw [Int.fmod_eq_emod_of_nonneg _ (by (first | lia | omega)), show xs.length - (k + 1) = xs.length - 1 - k by (first | lia | omega), List.drop_eq_getElem_cons (l := xs) (i := xs.length - 1 - k) (by (first | lia | omega)), (List.getElem?_eq_some_iff.mp hx').2, show xs.length - 1 - k + 1 = xs.length - k by (first | lia | omega), he]
      simp only [num]
      rw [Int.add_comm, Int.mul_comm]
      rw [Int.add_emod, Int.mul_emod, Int.emod_emod, ← Int.mul_emod, ← Int.add_emod]
    · intro V' H' hJ
      refine xe2 hJ fun fs e hI => el9 hI fun va vw vd vf vr hle hfh hfl he => ?_
      clear hI hJ
      refine ⟨by simp [itemAt], ?_⟩
      wtm_at "s1"
      repeat wtm_at "e1"
      refine normal_spec X r hfh (by (first | lia | omega)) fun H₃ g hle₃ hg => ?_
      repeat wtm_at "e1"
      refine ⟨by wtm_at "sz", fun t₂ H₄ ht₂ hle₄ htt₂ => q H₄ t₂ g (hle.trans (hle₃.trans hle₄)) ?_⟩
      rw [htt₂, he]
      simp

theorem shift_left_spec {C : Cx} {A : Around} {H : AH} {F : Nat → Addr} {a : Addr} {xs : List Int} {n w : Nat} {Q : AV → AH → Prop} (X : FsOk C F) (hA : Room 1 A) (ha : H a = some (.list (xs.map .int)))
    (hx : xs.length ≤ 1000) (hx0 : xs ≠ []) (hw : 1 ≤ w) (hw2 : w ≤ 16) (hn : n < w) (lx : Limbs (2 ^ w) xs)
    (q : ∀ H' r zs, AH.le H H' → H r = none → H' r = some (.list (zs.map .int)) → Limbs (2 ^ w) zs → num (2 ^ w) zs = num (2 ^ w) xs * 2 ^ n → (zs.length = xs.length ∨ zs.length = xs.length + 1 ∧ (2 ^ w) ^ xs.length ≤ num (2 ^ w) zs) → Q (.ref r) H') : CJ C A (.ref (F 7)) H [.ref a, .int n, .int w] Q := by
  have hlen := X.b "len" (by decide)
  have hB := two_le_pow hw
  have hB2 := pow2_30 (w := w) (by (first | lia | omega))
  have hN := pow_pos' (B := 2) (by decide) n
  have hNB : (2 : Int) ^ n ≤ 2 ^ w := pow_le_pow' (by decide) (by (first | lia | omega))
  have hxl : 0 < xs.length := List.length_pos_iff.mpr hx0
  refine CJ.def_ (k := 0) ["a", "n", "w"] (X.f 7 (by decide)) hA (by with_unfolding_all rfl) ?_ (by decide) (by rfl) (by rfl) (by rfl) ?_
  · intro doc pm cdv ct an vals hl
    obtain ⟨_, _, _, rfl⟩ := len3 hl
    rfl
  · intro A' L cd r eo
    have hh := r.handled
    wtm_at "vs"
    wtm_at "s1"
    repeat wtm_at "e1"
    refine CJ.len ha (by wtm_at "ln") ?_
    repeat wtm_at "e1"
    rw [show (((xs.map AV.int).length : Int) == 0) = false by simp; (first | lia | omega), if_neg Bool.false_ne_true]
    wtm_at "s1"
    wtm_at "s1"
    repeat wtm_at "e1"
    refine BO.div (by (first | lia | omega)) (by (first | lia | omega)) ?_
    repeat wtm_at "e1"
    refine BO.mod (by (first | lia | omega)) ?_
    repeat wtm_at "e1"
    rw [Int.fdiv_eq_ediv_of_nonneg _ (by (first | lia | omega)), Int.fmod_eq_emod_of_nonneg _ (by (first | lia | omega)), Int.ediv_eq_zero_of_lt (by (first | lia | omega)) (by (first | lia | omega)), Int.emod_eq_of_lt (by (first | lia | omega)) (by (first | lia | omega))]
    refine ⟨by wtm_at "sz", fun t₀ H₀ ht₀ hle₀ htt₀ => ⟨t₀, _, _, rfl, htt₀, ?_⟩⟩
    wtm_at "s1"
    repeat wtm_at "e1"
    refine ⟨by wtm_at "sz", fun z H₁ hz hle₁ hzz => ?_⟩
    repeat wtm_at "e1"
    refine BO.mulN hzz (by simp) (by simp) fun f H₂ hf hle₂ hff => ?_
    repeat wtm_at "e1"
    wtm_at "bs"
    repeat wtm_at "e1"
    refine ⟨by wtm_at "sz", fun t H₃ ht hle₃ htt => ⟨t, _, _, _, rfl, htt, ?_⟩⟩
    wtm_at "nrm"
    have hle₀₁ := hle₀.trans hle₁
    have hle₀₃ := hle₀₁.trans (hle₂.trans hle₃)
    have hfn := AH.none_of hle₀₁ hf
    have hf₃ := hle₃ _ _ hff
    have ha₃ := hle₀₃ _ _ ha
    wtm_at "s1"
    wtm_at "i1"
    repeat wtm_at "e1"
    refine ⟨_, _, rfl, ha₃, ?_⟩
    refine ⟨xs.length, fun k V' H' => ∃ fs c, V' "w" = some (.int w) ∧ V' "few" = some (.int n) ∧ V' "found" = some (.ref f) ∧ V' "carry" = some (.int c) ∧ V' "mask" = some (.int (2 ^ w - 1)) ∧ AH.le H H' ∧ H' f = some (.list (fs.map .int)) ∧
      Limbs (2 ^ w) fs ∧ fs.length = k ∧ 0 ≤ c ∧ c < 2 ^ n ∧ num (2 ^ w) fs + (2 ^ w) ^ k * c = num (2 ^ w) (xs.take k) * 2 ^ n,
      ⟨[], 0, by wtm_at "lk", by wtm_at "lk", by wtm_at "lk", by wtm_at "lk", by wtm_at "lk", hle₀₃, hf₃, (fun x hx => nomatch hx), rfl, by (first | lia | omega), by (first | lia | omega), by simp [num]⟩, ?_, ?_⟩
    · intro k V' H' hk hJ
      refine xe2 hJ fun fs c hI => el12 hI fun vw vn vf vc vm hle hfh lf hfl hc0 hc1 hnum => ?_
      clear hI hJ
      obtain ⟨x, hx'⟩ : ∃ x, xs[k]? = some x := ⟨_, List.getElem?_eq_getElem hk⟩
      have hxb := lx.get hx'
      refine ⟨.one (.int x), _, by simp only [itemAt]; rw [hle _ _ ha]; simp [hx'], TgtOk.one rfl StX.fr, ?_⟩
      wtm_at "s1"
      repeat wtm_at "e1"
      refine BO.shl (by (first | lia | omega)) (by have := bits_lt (m := w) hxb.1 hxb.2; (first | lia | omega)) ?_
      rw [Int.toNat_natCast]
      repeat wtm_at "e1"
      rw [bor_lo hc0 hc1]
      wtm_at "s1"
      repeat wtm_at "e1"
      refine ⟨_, _, rfl, hfh, ?_⟩
      repeat wtm_at "e1"
      refine ⟨_, hfh, by wtm_at "sz", ?_⟩
      wtm_at "nrm"
      repeat wtm_at "s1"
      repeat wtm_at "e1"
      wtm_at "bs"
      wtm_at "s1"
      rw [Int.toNat_natCast, Int.fdiv_eq_ediv_of_nonneg _ (show (0 : Int) ≤ 2 ^ w by (first | lia | omega))]
      have h1 : x * 2 ^ n ≤ (2 ^ w - 1) * 2 ^ n := Int.mul_le_mul_of_nonneg_right (by (first | lia | omega)) (by (first | lia | omega))
      have h0 : 0 ≤ x * 2 ^ n := Int.mul_nonneg hxb.1 (by (first | lia | omega))
      have h1' : x * 2 ^ n + 2 ^ n ≤ 2 ^ w * 2 ^ n := by rw [Int.sub_mul] at h1; (first | lia | omega)
      have hm0 := Int.emod_nonneg (c + x * 2 ^ n) (show (2 : Int) ^ w ≠ 0 by (first | lia | omega))
      have hm1 := Int.emod_lt_of_pos (c + x * 2 ^ n) (show (0 : Int) < 2 ^ w by (first | lia | omega))
      have hem := Int.emod_add_mul_ediv (c + x * 2 ^ n) (2 ^ w)
      have hd0 := Int.ediv_nonneg (show 0 ≤ c + x * 2 ^ n by (first | lia | omega)) (show (0 : Int) ≤ 2 ^ w by (first | lia | omega))
      have hd1 : (c + x * 2 ^ n) / 2 ^ w < 2 ^ n := Int.ediv_lt_of_lt_mul (by (first | lia | omega)) (by rw [Int.mul_comm (2 ^ n)]; (first | lia | omega))
      refine ⟨fs ++ [(c + x * 2 ^ n) % 2 ^ w], _, by wtm_at "lk", by wtm_at "lk", by wtm_at "lk", by wtm_at "lk", by wtm_at "lk", AH.le_write hle hfn, by rw [AH.set_self]; simp, lf.snoc ⟨hm0, hm1⟩, by simp [hfl], hd0, hd1, ?_⟩
      rw [num_snoc, num_take_succ _ hx', hfl, Int.pow_succ]
      have e1 : (2 ^ w : Int) ^ k * (c + x * 2 ^ n) = (2 ^ w) ^ k * ((c + x * 2 ^ n) % 2 ^ w + 2 ^ w * ((c + x * 2 ^ n) / 2 ^ w)) := by rw [hem]
      grind
    · intro V' H' hJ
      refine xe2 hJ fun fs c hI => el12 hI fun vw vn vf vc vm hle hfh lf hfl hc0 hc1 hnum => ?_
      clear hI hJ
      refine ⟨by simp only [itemAt]; rw [hle _ _ ha]; simp, ?_⟩
      rw [List.take_length] at hnum
      have hfN := hfn
      refine SJ.ifJ (fun V' H' => ∃ zs, V' "found" = some (.ref f) ∧ AH.le H H' ∧ H' f = some (.list (zs.map .int)) ∧ Limbs (2 ^ w) zs ∧ num (2 ^ w) zs = num (2 ^ w) xs * 2 ^ n ∧ (zs.length = xs.length ∨ zs.length = xs.length + 1 ∧ (2 ^ w) ^ xs.length ≤ num (2 ^ w) zs)) ?_ ?_
      · repeat wtm_at "e1"
        by_cases h0 : 0 < c
        · rw [decide_eq_true h0, if_pos rfl]
          wtm_at "s1"
          repeat wtm_at "e1"
          refine ⟨_, _, rfl, hfh, ?_⟩
          repeat wtm_at "e1"
          refine ⟨_, hfh, by wtm_at "sz", ?_⟩
          wtm_at "s1"
          have hp := pow_pos' (show (0 : Int) < 2 ^ w by (first | lia | omega)) xs.length
          have hge : (2 ^ w : Int) ^ xs.length * 1 ≤ (2 ^ w) ^ xs.length * c := Int.mul_le_mul_of_nonneg_left (by (first | lia | omega)) (by (first | lia | omega))
          have hnn := num_nonneg (show (0 : Int) ≤ 2 ^ w by (first | lia | omega)) lf
          refine ⟨fs ++ [c], vf, AH.le_write hle hfn, by rw [AH.set_self]; simp, lf.snoc ⟨hc0, by (first | lia | omega)⟩, ?_, .inr ⟨by simp [hfl], ?_⟩⟩
          · rw [num_snoc, hfl, hnum]
          · rw [num_snoc, hfl]; (first | lia | omega)
        · rw [decide_eq_false h0, if_neg Bool.false_ne_true]
          wtm_at "s1"
          have : c = 0 := by (first | lia | omega)
          subst this
          refine ⟨fs, vf, hle, hfh, lf, ?_, .inl hfl⟩
          simpa using hnum
      · intro V₆ H₆ hJ
        refine xe1 hJ fun zs hI => el6 hI fun vf hle₆ hf₆ lz hz hzl => ?_
        clear hI hJ
        wtm_at "s1"
        repeat wtm_at "e1"
        exact q H₆ f zs hle₆ hfN hf₆ lz hz hzl

/-- a variable set, with what is known of its value -/
theorem mul_spec {C : Cx} {A : Around} {H : AH} {F : Nat → Addr} {a b : Addr} {xs ys : List Int} {w : Nat} {Q : AV → AH → Prop} (X : FsOk C F) (hA : Room 2 A) (ha : H a = some (.list (xs.map .int))) (hb : H b = some (.list (ys.map .int)))
    (hx : xs.length ≤ 500) (hy : ys.length ≤ 500) (hw : 1 ≤ w) (hw2 : w ≤ 16) (lx : Limbs (2 ^ w) xs) (ly : Limbs (2 ^ w) ys)
    (q : ∀ H' r, AH.le H H' → LI H' (.ref r) (limb (2 ^ w) (num (2 ^ w) xs * num (2 ^ w) ys)) → Q (.ref r) H') : CJ C A (.ref (F 17)) H [.ref a, .ref b, .int w] Q := by
  have hlen := X.b "len" (by decide)
  have henum := X.b "enumerate" (by decide)
  have hnm : C.mg "normal" = _ := X.n (i := 3) (by decide) (by rfl)
  have hnk := X.k (i := 3) (by decide)
  have hB := two_le_pow hw
  have hB2 := pow2_30 (w := w) (by (first | lia | omega))
  refine CJ.def_ (k := 1) ["a", "b", "w"] (X.f 17 (by decide)) hA (by with_unfolding_all rfl) ?_ (by decide) (by rfl) (by rfl) (by rfl) ?_
  · intro doc pm cdv ct an vals hl
    obtain ⟨_, _, _, rfl⟩ := len3 hl
    rfl
  · intro A' L cd r eo
    have hh := r.handled
    wtm_at "vs"
    wtm_at "s1"
    repeat wtm_at "e1"
    refine ⟨by wtm_at "sz", fun z H₁ hz hle₁ hzz => ?_⟩
    repeat wtm_at "e1"
    refine CJ.len (hle₁ _ _ ha) (by wtm_at "ln") ?_
    repeat wtm_at "e1"
    refine CJ.len (hle₁ _ _ hb) (by wtm_at "ln") ?_
    repeat wtm_at "e1"
    refine BO.mulN hzz (by simp; (first | lia | omega)) (by simp; (first | lia | omega)) fun f H₂ hf hle₂ hff => ?_
    repeat wtm_at "e1"
    wtm_at "bs"
    repeat wtm_at "e1"
    refine ⟨by wtm_at "sz", fun t H₃ ht hle₃ htt => ⟨t, _, _, rfl, htt, ?_⟩⟩
    wtm_at "nrm"
    have hfn := AH.none_of hle₁ hf
    have hle₀₃ := hle₁.trans (hle₂.trans hle₃)
    have hf₃ := hle₃ _ _ hff
    rw [show ((xs.map AV.int).length + (ys.map AV.int).length : Int).toNat = xs.length + ys.length by simp; (first | lia | omega)] at hf₃
    wtm_at "s1"
    wtm_at "i1"
    repeat wtm_at "e1"
    refine ⟨_, _, rfl, hle₀₃ _ _ ha, ?_⟩
    refine ⟨xs.length, fun k V' H' => ∃ fs, V' "a" = some (.ref a) ∧ V' "b" = some (.ref b) ∧ V' "w" = some (.int w) ∧ V' "found" = some (.ref f) ∧ V' "mask" = some (.int (2 ^ w - 1)) ∧ AH.le H H' ∧ H' f = some (.list (fs.map .int)) ∧
      Limbs (2 ^ w) fs ∧ fs.length = xs.length + ys.length ∧ (∀ i, k + ys.length ≤ i → i < xs.length + ys.length → fs[i]? = some 0) ∧ num (2 ^ w) fs = num (2 ^ w) (xs.take k) * num (2 ^ w) ys,
      ⟨List.replicate (xs.length + ys.length) 0, by wtm_at "lk", by wtm_at "lk", by wtm_at "lk", by wtm_at "lk", by wtm_at "lk", hle₀₃, by rw [hf₃]; simp, Limbs.zeros (by (first | lia | omega)) _, by simp, fun i h1 h2 => by simp [h2], by simp [num, num_zeros]⟩, ?_, ?_⟩
    · intro k V' H' hk hJ
      refine xe1 hJ fun fs hI => el11 hI fun va vb vw vf vm hle hfh lf hfl hfz hnum => ?_
      clear hI hJ
      obtain ⟨x, hx'⟩ : ∃ x, xs[k]? = some x := ⟨_, List.getElem?_eq_getElem hk⟩
      have hxb := lx.get hx'
      refine ⟨.two (.int k) (.int x), _, by simp only [itemAt]; rw [hle _ _ ha]; simp [hx'], TgtOk.pair rfl rfl StX.fr StX.fr, ?_⟩
      wtm_at "s1"
      repeat wtm_at "e1"
      wtm_at "s1"
      wtm_at "i1"
      repeat wtm_at "e1"
      refine ⟨_, _, rfl, hle _ _ hb, ?_⟩
      refine ⟨ys.length, fun j V' H' => ∃ gs c, V' "a" = some (.ref a) ∧ V' "b" = some (.ref b) ∧ V' "w" = some (.int w) ∧ V' "found" = some (.ref f) ∧ V' "mask" = some (.int (2 ^ w - 1)) ∧ V' "at" = some (.int k) ∧ V' "limb" = some (.int x) ∧ V' "carry" = some (.int c) ∧ AH.le H H' ∧ H' f = some (.list (gs.map .int)) ∧
        Limbs (2 ^ w) gs ∧ gs.length = xs.length + ys.length ∧ (∀ i, k + ys.length ≤ i → i < xs.length + ys.length → gs[i]? = some 0) ∧ 0 ≤ c ∧ c < 2 ^ w ∧ num (2 ^ w) gs + (2 ^ w) ^ (k + j) * c = num (2 ^ w) fs + (2 ^ w) ^ k * (x * num (2 ^ w) (ys.take j)),
        ⟨fs, 0, by wtm_at "lk", by wtm_at "lk", by wtm_at "lk", by wtm_at "lk", by wtm_at "lk", by wtm_at "lk", by wtm_at "lk", by wtm_at "lk", hle, hfh, lf, hfl, hfz, by (first | lia | omega), by (first | lia | omega), by simp [num]⟩, ?_, ?_⟩
      · intro j V₁ H₁ hj hJ
        refine xe2 hJ fun gs c hI => el16 hI fun va vb vw vf vm vt vl vc hle hgh lg hgl hgz hc0 hc1 hgn => ?_
        clear hI hJ
        obtain ⟨y, hy'⟩ : ∃ y, ys[j]? = some y := ⟨_, List.getElem?_eq_getElem hj⟩
        obtain ⟨g, hg'⟩ : ∃ g, gs[k + j]? = some g := ⟨_, List.getElem?_eq_getElem (by (first | lia | omega))⟩
        have hyb := ly.get hy'
        have hgb := lg.get hg'
        refine ⟨.two (.int j) (.int y), _, by simp only [itemAt]; rw [hle _ _ hb]; simp [hy'], TgtOk.pair rfl rfl StX.fr StX.fr, ?_⟩
        have ei : ((k : Int) + (j : Int)) = ((k + j : Nat) : Int) := by (first | lia | omega)
        wtm_at "s1"
        repeat wtm_at "e1"
        refine ⟨_, _, _, _, rfl, rfl, hgh, by rw [ei]; exact itI (by (first | lia | omega)) (getI hg'), ?_⟩
        repeat wtm_at "e1"
        refine BO.mul (.of_left (Nat.le_trans (bits_lt hxb.1 hxb.2) (by (first | lia | omega)))) ?_
        repeat wtm_at "e1"
        wtm_at "s1"
        repeat wtm_at "e1"
        refine ⟨_, _, k + j, rfl, by rw [ei], hgh, lm1 (by (first | lia | omega)), lm2 (by (first | lia | omega)), ?_⟩
        wtm_at "nrm"
        rw [← List.map_set]
        wtm_at "s1"
        repeat wtm_at "e1"
        wtm_at "bs"
        wtm_at "s1"
        rw [Int.toNat_natCast, Int.fdiv_eq_ediv_of_nonneg _ (show (0 : Int) ≤ 2 ^ w by (first | lia | omega))]
        have h0 : 0 ≤ x * y := Int.mul_nonneg hxb.1 hyb.1
        have h1 : x * y ≤ (2 ^ w - 1) * (2 ^ w - 1) := Int.mul_le_mul (by (first | lia | omega)) (by (first | lia | omega)) hyb.1 (by (first | lia | omega))
        have h1' : (2 ^ w - 1) * (2 ^ w - 1) = (2 ^ w * 2 ^ w - 2 * 2 ^ w + 1 : Int) := by grind
        have hm0 := Int.emod_nonneg (c + (g + x * y)) (show (2 : Int) ^ w ≠ 0 by (first | lia | omega))
        have hm1 := Int.emod_lt_of_pos (c + (g + x * y)) (show (0 : Int) < 2 ^ w by (first | lia | omega))
        have hem := Int.emod_add_mul_ediv (c + (g + x * y)) (2 ^ w)
        have hd0 := Int.ediv_nonneg (show 0 ≤ c + (g + x * y) by (first | lia | omega)) (show (0 : Int) ≤ 2 ^ w by (first | lia | omega))
        have hd1 : (c + (g + x * y)) / 2 ^ w < 2 ^ w := Int.ediv_lt_of_lt_mul (by (first | lia | omega)) (by (first | lia | omega))
        refine ⟨gs.set (k + j) ((c + (g + x * y)) % 2 ^ w), _, by wtm_at "lk", by wtm_at "lk", by wtm_at "lk", by wtm_at "lk", by wtm_at "lk", by wtm_at "lk", by wtm_at "lk", by wtm_at "lk", AH.le_write hle hfn, AH.set_self, lg.set _ ⟨hm0, hm1⟩, by simp [hgl], fun i h1 h2 => by rw [List.getElem?_set_ne (by (first | lia | omega))]; exact hgz i h1 h2, hd0, hd1, ?_⟩
        rw [num_set _ _ _ _ _ hg', num_take_succ _ hy', ← Nat.add_assoc, Int.pow_succ]
        have e1 : (2 ^ w : Int) ^ (k + j) * (c + (g + x * y)) = (2 ^ w) ^ (k + j) * ((c + (g + x * y)) % 2 ^ w + 2 ^ w * ((c + (g + x * y)) / 2 ^ w)) := by rw [hem]
        have e2 : (2 ^ w : Int) ^ (k + j) = (2 ^ w) ^ k * (2 ^ w) ^ j := Int.pow_add ..
        generalize (c + (g + x * y)) % 2 ^ w = m at *
        generalize (c + (g + x * y)) / 2 ^ w = d at *
        grind
      · intro V₁ H₁ hJ
        refine xe2 hJ fun gs c hI => el16 hI fun va vb vw vf vm vt vl vc hle hgh lg hgl hgz hc0 hc1 hgn => ?_
        clear hI hJ
        refine ⟨by simp only [itemAt]; rw [hle _ _ hb]; simp, ?_⟩
        rw [List.take_length] at hgn
        wtm_at "s1"
        repeat wtm_at "e1"
        refine CJ.len (hle _ _ hb) (by wtm_at "ln") ?_
        repeat wtm_at "e1"
        refine ⟨_, _, k + ys.length, rfl, by simp, hgh, lm1 (by (first | lia | omega)), lm2 (by (first | lia | omega)), ?_⟩
        rw [← List.map_set]
        wtm_at "s1"
        refine ⟨gs.set (k + ys.length) c, va, vb, vw, vf, vm, AH.le_write hle hfn, AH.set_self, lg.set _ ⟨hc0, hc1⟩, by simp [hgl], fun i h1 h2 => by rw [List.getElem?_set_ne (by (first | lia | omega))]; exact hgz i (by (first | lia | omega)) h2, ?_⟩
        rw [num_set _ _ _ _ _ (hgz (k + ys.length) (by (first | lia | omega)) (by (first | lia | omega))), num_take_succ _ hx']
        grind
    · intro V' H' hJ
      refine xe1 hJ fun fs hI => el11 hI fun va vb vw vf vm hle hfh lf hfl hfz hnum => ?_
      clear hI hJ
      refine ⟨by simp only [itemAt]; rw [hle _ _ ha]; simp, ?_⟩
      rw [List.take_length] at hnum
      wtm_at "s1"
      repeat wtm_at "e1"
      refine normal_spec X r hfh (by (first | lia | omega)) fun H₃ g hle₃ hg => q H₃ g (hle.trans hle₃) ?_
      rw [normal_limb hB lf, hnum] at hg
      exact hg

theorem shift_right_spec {C : Cx} {A : Around} {H : AH} {F : Nat → Addr} {a : Addr} {xs : List Int} {n w : Nat} {Q : AV → AH → Prop} (X : FsOk C F) (hA : Room 2 A) (ha : H a = some (.list (xs.map .int)))
    (hx : xs.length ≤ 1000) (hw : 1 ≤ w) (hw2 : w ≤ 16) (hn : n < w) (lx : Limbs (2 ^ w) xs)
    (q : ∀ H' r, AH.le H H' → LI H' (.ref r) (limb (2 ^ w) (num (2 ^ w) xs / 2 ^ n)) → Q (.ref r) H') : CJ C A (.ref (F 8)) H [.ref a, .int n, .int w] Q := by
  have hlen := X.b "len" (by decide)
  have hrange := X.b "range" (by decide)
  have hnm : C.mg "normal" = _ := X.n (i := 3) (by decide) (by rfl)
  have hnk := X.k (i := 3) (by decide)
  have hB := two_le_pow hw
  have hB2 := pow2_30 (w := w) (by (first | lia | omega))
  have hN := pow_pos' (B := 2) (by decide) n
  have hM := pow_pos' (B := 2) (by decide) (w - n)
  have hNM : (2 : Int) ^ w = 2 ^ n * 2 ^ (w - n) := by rw [← Int.pow_add, show n + (w - n) = w by (first | lia | omega)]
  refine CJ.def_ (k := 1) ["a", "n", "w"] (X.f 8 (by decide)) hA (by with_unfolding_all rfl) ?_ (by decide) (by rfl) (by rfl) (by rfl) ?_
  · intro doc pm cdv ct an vals hl
    obtain ⟨_, _, _, rfl⟩ := len3 hl
    rfl
  · intro A' L cd r eo
    have hh := r.handled
    wtm_at "vs"
    wtm_at "s1"
    repeat wtm_at "e1"
    refine BO.div (by (first | lia | omega)) (by (first | lia | omega)) ?_
    repeat wtm_at "e1"
    refine BO.mod (by (first | lia | omega)) ?_
    repeat wtm_at "e1"
    rw [Int.fdiv_eq_ediv_of_nonneg _ (by (first | lia | omega)), Int.fmod_eq_emod_of_nonneg _ (by (first | lia | omega)), Int.ediv_eq_zero_of_lt (by (first | lia | omega)) (by (first | lia | omega)), Int.emod_eq_of_lt (by (first | lia | omega)) (by (first | lia | omega))]
    refine ⟨by wtm_at "sz", fun t₀ H₀ ht₀ hle₀ htt₀ => ⟨t₀, _, _, rfl, htt₀, ?_⟩⟩
    wtm_at "s1"
    repeat wtm_at "e1"
    refine ⟨by wtm_at "sz", fun f H₁ hf hle₁ hff => ?_⟩
    repeat wtm_at "e1"
    wtm_at "bs"
    repeat wtm_at "e1"
    refine ⟨by wtm_at "sz", fun t H₂ ht hle₂ htt => ⟨t, _, _, rfl, htt, ?_⟩⟩
    wtm_at "nrm"
    have hfn := AH.none_of hle₀ hf
    have hle₀₂ := hle₀.trans (hle₁.trans hle₂)
    have hf₂ := hle₂ _ _ hff
    wtm_at "s1"
    wtm_at "i1"
    repeat wtm_at "e1"
    refine CJ.len (hle₀₂ _ _ ha) (by wtm_at "ln") ?_
    repeat wtm_at "e1"
    refine ⟨_, _, _, .inr (.inl ⟨rfl, rfl⟩), by simp, by simp; (first | lia | omega), by decide, by decide, ?_⟩
    rw [rangeSize_up]
    wtm_at "nrm"
    rw [show ((xs.length : Int) - 0).toNat = xs.length by (first | lia | omega)]
    refine ⟨xs.length, fun k V' H' => ∃ fs, V' "a" = some (.ref a) ∧ V' "w" = some (.int w) ∧ V' "few" = some (.int n) ∧ V' "found" = some (.ref f) ∧ V' "mask" = some (.int (2 ^ w - 1)) ∧ AH.le H H' ∧ H' f = some (.list (fs.map .int)) ∧
      Limbs (2 ^ w) fs ∧ fs.length = k ∧ 2 ^ n * num (2 ^ w) fs + xs[0]?.getD 0 % 2 ^ n = num (2 ^ w) (xs.take k) + (2 ^ w) ^ k * (xs[k]?.getD 0 % 2 ^ n),
      ⟨[], by wtm_at "lk", by wtm_at "lk", by wtm_at "lk", by wtm_at "lk", by wtm_at "lk", hle₀₂, hf₂, (fun x hx => nomatch hx), rfl, by simp [num]⟩, ?_, ?_⟩
    · intro k V' H' hk hJ
      refine xe1 hJ fun fs hI => el10 hI fun va vw vn vf vm hle hfh lf hfl hnum => ?_
      clear hI hJ
      refine ⟨_, _, by simp only [itemAt]; rw [if_pos hk], TgtOk.one rfl StX.fr, ?_⟩
      obtain ⟨x, hx'⟩ : ∃ x, xs[k]? = some x := ⟨_, List.getElem?_eq_getElem hk⟩
      have hxb := lx.get hx'
      rw [show ((0 : Int) + (k : Int) * 1) = (k : Int) by (first | lia | omega)]
      refine SJ.assignJ (fun v H'' => ∃ u : Int, v = .int u ∧ H'' = H' ∧ u = xs[k + 1]?.getD 0) ?_ ?_ rfl (by wtm_at "rf")
      · repeat wtm_at "e1"
        refine CJ.len (hle _ _ ha) (by wtm_at "ln") ?_
        repeat wtm_at "e1"
        wtm_at "nrm"
        by_cases hlt : k + 1 < xs.length
        · rw [show decide (((k : Int) + 1) < (xs.length : Int)) = true by simp; (first | lia | omega), if_pos rfl]
          repeat wtm_at "e1"
          obtain ⟨u, hu⟩ : ∃ u, xs[k + 1]? = some u := ⟨_, List.getElem?_eq_getElem hlt⟩
          refine ⟨_, _, _, _, rfl, rfl, hle _ _ ha, .inl ⟨by (first | lia | omega), by (first | lia | omega), by rw [show ((k : Int) + 1).toNat = k + 1 by (first | lia | omega)]; exact getI hu⟩, ?_⟩
          exact ⟨u, rfl, rfl, by rw [hu]; rfl⟩
        · rw [show decide (((k : Int) + 1) < (xs.length : Int)) = false by simp; (first | lia | omega), if_neg Bool.false_ne_true]
          repeat wtm_at "e1"
          exact ⟨rfl, by rw [List.getElem?_eq_none (by (first | lia | omega))]; rfl⟩
      rintro v H₃ ⟨u, rfl, rfl, hu⟩
      have hub : 0 ≤ u ∧ u < 2 ^ w := by
        rw [hu]
        cases hq : xs[k + 1]? with
        | none => simp; (first | lia | omega)
        | some z => exact lx.get hq
      wtm_at "s1"
      repeat wtm_at "e1"
      refine ⟨_, _, rfl, hfh, ?_⟩
      repeat wtm_at "e1"
      refine ⟨_, _, _, _, rfl, rfl, hle _ _ ha, itI (by (first | lia | omega)) (getI hx'), ?_⟩
      repeat wtm_at "e1"
      wtm_at "bs"
      repeat wtm_at "e1"
      refine BO.shl (by (first | lia | omega)) (by have := bits_lt (m := w) hub.1 hub.2; (first | lia | omega)) ?_
      repeat wtm_at "e1"
      have h0 : 0 ≤ x / 2 ^ n := Int.ediv_nonneg hxb.1 (by (first | lia | omega))
      have h1 : x / 2 ^ n < 2 ^ (w - n) := Int.ediv_lt_of_lt_mul (by (first | lia | omega)) (by rw [Int.mul_comm, ← hNM]; exact hxb.2)
      rw [show ((w : Int) - (n : Int)).toNat = w - n by (first | lia | omega), Int.toNat_natCast, Int.fdiv_eq_ediv_of_nonneg _ (show (0 : Int) ≤ 2 ^ n by (first | lia | omega)), bor_lo h0 h1]
      refine ⟨_, hfh, by wtm_at "sz", ?_⟩
      wtm_at "nrm"
      wtm_at "s1"
      have hr0 := Int.emod_nonneg u (show (2 : Int) ^ n ≠ 0 by (first | lia | omega))
      have hr1 := Int.emod_lt_of_pos u hN
      have hre := Int.emod_add_mul_ediv u (2 ^ n)
      have hxe := Int.emod_add_mul_ediv x (2 ^ n)
      have h2 : 2 ^ (w - n) * (u % 2 ^ n) ≤ 2 ^ (w - n) * (2 ^ n - 1) := Int.mul_le_mul_of_nonneg_left (by (first | lia | omega)) (by (first | lia | omega))
      have h3 : 0 ≤ 2 ^ (w - n) * (u % 2 ^ n) := Int.mul_nonneg (by (first | lia | omega)) hr0
      have hlo : 0 ≤ x / 2 ^ n + 2 ^ (w - n) * (u % 2 ^ n) := by (first | lia | omega)
      have hhi : x / 2 ^ n + 2 ^ (w - n) * (u % 2 ^ n) < 2 ^ w := by rw [Int.mul_sub, Int.mul_comm _ (2 ^ n), ← hNM] at h2; (first | lia | omega)
      have hv : (x / 2 ^ n + u * 2 ^ (w - n)) % 2 ^ w = x / 2 ^ n + 2 ^ (w - n) * (u % 2 ^ n) := by
        have : x / 2 ^ n + u * 2 ^ (w - n) = x / 2 ^ n + 2 ^ (w - n) * (u % 2 ^ n) + 2 ^ w * (u / 2 ^ n) := by rw [hNM]; grind
        rw [this, Int.add_mul_emod_self_left, Int.emod_eq_of_lt hlo hhi]
      refine ⟨fs ++ [(x / 2 ^ n + u * 2 ^ (w - n)) % 2 ^ w], by wtm_at "lk", by wtm_at "lk", by wtm_at "lk", by wtm_at "lk", by wtm_at "lk", AH.le_write hle hfn, by rw [AH.set_self]; simp, lf.snoc (by rw [hv]; exact ⟨hlo, hhi⟩), by simp [hfl], ?_⟩
      rw [hx'] at hnum
      rw [hv, num_snoc, num_take_succ _ hx', hfl, Int.pow_succ, ← hu]
      simp only [Option.getD_some] at hnum
      have e5 : (2 ^ w : Int) ^ k * 2 ^ w * (u % 2 ^ n) = (2 ^ w) ^ k * (2 ^ n * (2 ^ (w - n) * (u % 2 ^ n))) := by rw [Int.mul_assoc, ← Int.mul_assoc (2 ^ n), ← hNM]
      rw [e5]
      generalize 2 ^ (w - n) * (u % 2 ^ n) = z
      generalize ((2 : Int) ^ w) ^ k = P at *
      generalize x % 2 ^ n = xr at *
      generalize x / 2 ^ n = xd at *
      grind
    · intro V' H' hJ
      refine xe1 hJ fun fs hI => el10 hI fun va vw vn vf vm hle hfh lf hfl hnum => ?_
      clear hI hJ
      refine ⟨by simp [itemAt], ?_⟩
      rw [List.take_length, List.getElem?_eq_none (Nat.le_refl _)] at hnum
      wtm_at "s1"
      repeat wtm_at "e1"
      refine normal_spec X r hfh (by (first | lia | omega)) fun H₃ g hle₃ hg => q H₃ g (hle.trans hle₃) ?_
      have h0 := Int.emod_nonneg (xs[0]?.getD 0) (show (2 : Int) ^ n ≠ 0 by (first | lia | omega))
      have h1 := Int.emod_lt_of_pos (xs[0]?.getD 0) hN
      have e : num (2 ^ w) xs / 2 ^ n = num (2 ^ w) fs := by
        have : num (2 ^ w) xs = xs[0]?.getD 0 % 2 ^ n + 2 ^ n * num (2 ^ w) fs := by simp at hnum; (first | lia | omega)
        rw [this, Int.add_mul_ediv_left _ _ (by (first | lia | omega)), Int.ediv_eq_zero_of_lt h0 h1]; (first | lia | omega)
      rw [normal_limb hB lf, ← e] at hg
      exact hg


theorem SJ.expr {C : Cx} {A : Around} {env : Env} {V : VM} {H : AH} {Q : AF → VM → AH → Prop} {rest : List Stmt} {e : Expr} {pos : Pos} (h : EJ C A env V H e fun v H₁ => v = .none ∧ SJ C A env V H₁ rest Q)
    (hi : interactive env = false) (hs : swapsWith e none pos.line env = pure false) : SJ C A env V H (.Expr e pos :: rest) Q :=
  SJ.consQ fun s₀ o₀ => wpAny_Expr (wpAny_mono (h s₀ o₀) (fun v s' ⟨H', ⟨e, q⟩, h', t'⟩ => by rw [er_none e]; exact ⟨V, H', q, o₀.vars.tr o₀.wd.has t', h', t'.toX⟩) fun _ _ e => e) hi hs

theorem limb_small {B r : Int} (hB : 2 ≤ B) (h0 : 0 < r) (h1 : r < B) : limb B r = [r] := by
  rw [limb_cons hB h0, Int.emod_eq_of_lt (by (first | lia | omega)) h1, Int.ediv_eq_zero_of_lt (by (first | lia | omega)) h1, limb_nil (Int.le_refl 0)]

/-- all but one kept -/
noncomputable def AH.leB (f : Addr) (H H' : AH) : Prop := ∀ a c, a ≠ f → H a = some c → H' a = some c
theorem AH.leB.refl {f : Addr} {H : AH} : AH.leB f H H := fun _ _ _ e => e
theorem AH.le.toB {f : Addr} {H H' : AH} (x : AH.le H H') : AH.leB f H H' := fun a c _ e => x a c e
theorem AH.leB.trans {f : Addr} {H H' H'' : AH} (x : AH.leB f H H') (y : AH.leB f H' H'') : AH.leB f H H'' := fun a c n e => y a c n (x a c n e)
theorem AH.leB.set {f : Addr} {H H' : AH} {c : Cell} (x : AH.leB f H H') : AH.leB f H (H'.set f c) := fun a d n e => by rw [AH.set_ne n]; exact x a d n e
theorem AH.leB.toLe {f : Addr} {H H' : AH} (x : AH.leB f H H') (h : H f = none) : AH.le H H' := fun a c e => x a c (fun q => by rw [q, h] at e; cases e) e


theorem divrem_small_spec {C : Cx} {A : Around} {H : AH} {F : Nat → Addr} {a b : Addr} {xs : List Int} {w : Nat} {d : Int} {Q : AV → AH → Prop} (X : FsOk C F) (hA : Room 3 A) (ha : H a = some (.list (xs.map .int))) (hb : H b = some (.list [.int d]))
    (hx : xs.length ≤ 1000) (hw : 1 ≤ w) (hw2 : w ≤ 16) (lx : Limbs (2 ^ w) xs) (hd : 0 < d) (hd2 : d < 2 ^ w)
    (q : ∀ H' t g r, AH.le H H' → H' t = some (.tup [.ref g, r]) → LI H' r (limb (2 ^ w) (num (2 ^ w) xs % d)) → Q (.ref t) H') : CJ C A (.ref (F 18)) H [.ref a, .ref b, .int w] Q := by
  have hdm : C.mg "divrem_limb" = _ := X.n (i := 6) (by decide) (by rfl)
  have hdk := X.k (i := 6) (by decide)
  have hB := two_le_pow hw
  refine CJ.def_ (k := 2) ["a", "b", "w"] (X.f 18 (by decide)) hA (by with_unfolding_all rfl) ?_ (by decide) (by rfl) (by rfl) (by rfl) ?_
  · intro doc pm cdv ct an vals hl
    obtain ⟨_, _, _, rfl⟩ := len3 hl
    rfl
  · intro A' L cd r eo
    have hh := r.handled
    wtm_at "vs"
    wtm_at "s1"
    repeat wtm_at "e1"
    refine ⟨_, _, _, _, rfl, rfl, hb, .inl ⟨by (first | lia | omega), by (first | lia | omega), rfl⟩, ?_⟩
    repeat wtm_at "e1"
    refine divrem_limb_spec X r ha hx hw hw2 lx hd hd2 fun H₁ t g hle ht => ?_
    refine ⟨t, _, _, rfl, ht, ?_⟩
    wtm_at "s1"
    repeat wtm_at "e1"
    have h0 := Int.emod_nonneg (num (2 ^ w) xs) (show d ≠ 0 by (first | lia | omega))
    have h1 := Int.emod_lt_of_pos (num (2 ^ w) xs) hd
    by_cases hp : 0 < num (2 ^ w) xs % d
    · rw [decide_eq_true hp, if_pos rfl]
      repeat wtm_at "e1"
      refine ⟨by wtm_at "sz", fun l H₂ hl hle₂ hll => ?_⟩
      repeat wtm_at "e1"
      refine ⟨by wtm_at "sz", fun t' H₃ ht' hle₃ htt => q H₃ t' _ _ (hle.trans (hle₂.trans hle₃)) htt (LI.iff.mpr ⟨l, rfl, ?_⟩)⟩
      rw [limb_small hB hp (by (first | lia | omega))]
      exact hle₃ _ _ hll
    · rw [decide_eq_false hp, if_neg Bool.false_ne_true]
      repeat wtm_at "e1"
      refine ⟨by wtm_at "sz", fun l H₂ hl hle₂ hll => ?_⟩
      repeat wtm_at "e1"
      refine ⟨by wtm_at "sz", fun t' H₃ ht' hle₃ htt => q H₃ t' _ _ (hle.trans (hle₂.trans hle₃)) htt (LI.iff.mpr ⟨l, rfl, ?_⟩)⟩
      rw [limb_nil (by (first | lia | omega))]
      exact hle₃ _ _ hll

theorem guessed_limb_spec {C : Cx} {A : Around} {H : AH} {F : Nat → Addr} {a : Addr} {t0 t1 t2 f s : Int} {w : Nat} {Q : AV → AH → Prop} (X : FsOk C F) (hA : Room 1 A) (ha : H a = some (.list [.int t0, .int t1, .int t2]))
    (hw : 1 ≤ w) (hw2 : w ≤ 16) (h0 : 0 ≤ t0 ∧ t0 < 2 ^ w) (h1 : 0 ≤ t1 ∧ t1 < 2 ^ w) (h2 : 0 ≤ t2 ∧ t2 < 2 ^ w) (hf : 0 < f ∧ f < 2 ^ w) (hs : 0 ≤ s ∧ s < 2 ^ w)
    (q : ∀ H' l, AH.le H H' → 0 ≤ l → l ≤ 2 ^ w - 1 → l * (f * 2 ^ w + s) ≤ (t2 * 2 ^ w + t1) * 2 ^ w + t0 → (∀ k, 0 ≤ k → k ≤ 2 ^ w - 1 → k * (f * 2 ^ w + s) ≤ (t2 * 2 ^ w + t1) * 2 ^ w + t0 → k ≤ l) → Q (.int l) H') :
    CJ C A (.ref (F 19)) H [.ref a, .int f, .int s, .int w] Q := by
  have hmin := X.b "min" (by decide)
  have hB := two_le_pow hw
  have hB2 := pow2_30 (w := w) (by (first | lia | omega))
  refine CJ.def_ (k := 0) ["top", "first", "second", "w"] (X.f 19 (by decide)) hA (by with_unfolding_all rfl) ?_ (by decide) (by rfl) (by rfl) (by rfl) ?_
  · intro doc pm cdv ct an vals hl
    obtain ⟨_, _, _, _, rfl⟩ := len4 hl
    rfl
  · intro A' L cd r eo
    have hh := r.handled
    wtm_at "vs"
    wtm_at "s1"
    repeat wtm_at "e1"
    refine ⟨_, _, _, _, rfl, rfl, ha, .inl ⟨by (first | lia | omega), by (first | lia | omega), rfl⟩, ?_⟩
    repeat wtm_at "e1"
    refine BO.shl (by (first | lia | omega)) (by have := bits_lt (m := w) h2.1 h2.2; (first | lia | omega)) ?_
    repeat wtm_at "e1"
    refine ⟨_, _, _, _, rfl, rfl, ha, .inl ⟨by (first | lia | omega), by (first | lia | omega), rfl⟩, ?_⟩
    repeat wtm_at "e1"
    wtm_at "bs"
    repeat wtm_at "e1"
    rw [Int.toNat_natCast, bor_hi h1.1 h1.2, Int.one_mul]
    refine ⟨by wtm_at "sz", fun t H₁ ht hle₁ htt => ⟨t, _, _, rfl, htt, ?_⟩⟩
    have hhi0 : 0 ≤ t2 * 2 ^ w + t1 := by have := Int.mul_nonneg h2.1 (show (0 : Int) ≤ 2 ^ w by (first | lia | omega)); (first | lia | omega)
    generalize hhi : t2 * 2 ^ w + t1 = high at q hhi0 ⊢
    have hfd := Int.emod_add_mul_ediv high f
    have hf0 := Int.emod_nonneg high (show f ≠ 0 by (first | lia | omega))
    have hf1 := Int.emod_lt_of_pos high hf.1
    have hfd0 := Int.ediv_nonneg hhi0 (show 0 ≤ f by (first | lia | omega))
    wtm_at "s1"
    repeat wtm_at "e1"
    refine BO.div (by (first | lia | omega)) (by (first | lia | omega)) ?_
    repeat wtm_at "e1"
    rw [Int.fdiv_eq_ediv_of_nonneg _ (by (first | lia | omega))]
    refine CJ.min hh ?_
    obtain ⟨l, hl⟩ : ∃ l, (if 2 ^ w - 1 < high / f then 2 ^ w - 1 else high / f) = l := ⟨_, rfl⟩
    rw [hl]
    have hl0 : 0 ≤ l ∧ l ≤ 2 ^ w - 1 ∧ l ≤ high / f ∧ (l = 2 ^ w - 1 ∨ l = high / f) := by rw [← hl]; split <;> (first | lia | omega)
    have hlf : f * l ≤ f * (high / f) := Int.mul_le_mul_of_nonneg_left hl0.2.2.1 (by (first | lia | omega))
    wtm_at "s1"
    repeat wtm_at "e1"
    refine BO.mul (.of_left (Nat.le_trans (bits_lt (m := w) hl0.1 (by (first | lia | omega))) (by (first | lia | omega)))) ?_
    repeat wtm_at "e1"
    refine SJ.while_ l.toNat (fun n V' H' => ∃ l rest : Int, n = l.toNat ∧ V' "top" = some (.ref a) ∧ V' "first" = some (.int f) ∧ V' "second" = some (.int s) ∧ V' "w" = some (.int w) ∧ V' "base" = some (.int (2 ^ w)) ∧ V' "limb" = some (.int l) ∧ V' "rest" = some (.int rest) ∧ AH.le H H' ∧
      0 ≤ l ∧ l ≤ 2 ^ w - 1 ∧ rest = high - l * f ∧ 0 ≤ rest ∧ (∀ k, 0 ≤ k → k ≤ 2 ^ w - 1 → k * (f * 2 ^ w + s) ≤ high * 2 ^ w + t0 → k ≤ l))
      ⟨l, _, rfl, by wtm_at "lk", by wtm_at "lk", by wtm_at "lk", by wtm_at "lk", by wtm_at "lk", by wtm_at "lk", by wtm_at "lk", hle₁, hl0.1, hl0.2.1, rfl, by rw [Int.mul_comm]; (first | lia | omega), ?_⟩ ?_
    · intro k hk0 hk1 hk
      rcases hl0.2.2.2 with e | e
      · (first | lia | omega)
      · rw [e]
        have e1 : k * f * 2 ^ w < (high + 1) * 2 ^ w := by
          have := Int.mul_nonneg hk0 hs.1
          grind
        have e2 : k * f < high + 1 := Int.lt_of_mul_lt_mul_right e1 (by (first | lia | omega))
        exact Int.le_ediv_of_mul_le hf.1 (by (first | lia | omega))
    · rintro n V' H' ⟨l, rest, rfl, hI⟩
      refine el13 hI fun vt vf vs vw vb vl vr hle hl0 hl1 hre hr0 hmax => ?_
      clear hI
      have fin : (2 ^ w ≤ rest ∨ l * s ≤ rest * 2 ^ w + t0) → l * (f * 2 ^ w + s) ≤ high * 2 ^ w + t0 := by
        intro hc
        have hls : l * s ≤ rest * 2 ^ w + t0 := by
          rcases hc with hc | hc
          · have e1 : l * s ≤ (2 ^ w - 1) * (2 ^ w - 1) := Int.mul_le_mul hl1 (by (first | lia | omega)) hs.1 (by (first | lia | omega))
            have e2 : 2 ^ w * 2 ^ w ≤ rest * 2 ^ w := Int.mul_le_mul_of_nonneg_right hc (by (first | lia | omega))
            have e3 : (2 ^ w - 1) * (2 ^ w - 1) = (2 ^ w * 2 ^ w - 2 * 2 ^ w + 1 : Int) := by grind
            (first | lia | omega)
          · exact hc
        have e4 : l * (f * 2 ^ w + s) = (high - rest) * 2 ^ w + l * s := by
          have : high - rest = l * f := by (first | lia | omega)
          rw [this]; grind
        rw [e4, Int.sub_mul]; (first | lia | omega)
      repeat wtm_at "e1"
      by_cases hlt : rest < 2 ^ w
      · rw [decide_eq_true hlt, if_pos rfl]
        repeat wtm_at "e1"
        refine BO.mul (.of_left (Nat.le_trans (bits_lt (m := w) hl0 (by (first | lia | omega))) (by (first | lia | omega)))) ?_
        repeat wtm_at "e1"
        refine BO.shl (by (first | lia | omega)) (by have := bits_lt (m := w) hr0 hlt; (first | lia | omega)) ?_
        repeat wtm_at "e1"
        refine ⟨_, _, _, _, rfl, rfl, hle _ _ ha, .inl ⟨by (first | lia | omega), by (first | lia | omega), rfl⟩, ?_⟩
        repeat wtm_at "e1"
        rw [Int.toNat_natCast, bor_hi h0.1 h0.2]
        by_cases hgt : rest * 2 ^ w + t0 < l * s
        · rw [decide_eq_true hgt, if_pos rfl]
          repeat wtm_at "s1"
          repeat wtm_at "e1"
          repeat wtm_at "s1"
          repeat wtm_at "e1"
          wtm_at "s1"
          have hrB := Int.mul_nonneg hr0 (show (0 : Int) ≤ 2 ^ w by (first | lia | omega))
          have hl2 : 0 < l := by
            rcases Int.lt_or_eq_of_le hl0 with q | q
            · exact q
            · rw [← q, Int.zero_mul] at hgt; (first | lia | omega)
          refine ⟨(l - 1).toNat, by (first | lia | omega), l - 1, rest + f, rfl, by wtm_at "lk", by wtm_at "lk", by wtm_at "lk", by wtm_at "lk", by wtm_at "lk", by wtm_at "lk", by wtm_at "lk", hle, by (first | lia | omega), by (first | lia | omega), by rw [Int.sub_mul]; (first | lia | omega), by (first | lia | omega), fun k hk0 hk1 hk => ?_⟩
          have hkl := hmax k hk0 hk1 hk
          rcases Int.lt_or_eq_of_le hkl with q | q
          · (first | lia | omega)
          · exfalso
            rw [q] at hk
            have e4 : l * (f * 2 ^ w + s) = (high - rest) * 2 ^ w + l * s := by
              have : high - rest = l * f := by (first | lia | omega)
              rw [this]; grind
            rw [e4, Int.sub_mul] at hk
            (first | lia | omega)
        · rw [decide_eq_false hgt, if_neg Bool.false_ne_true]
          wtm_at "s1"
          repeat wtm_at "e1"
          exact q H' l hle hl0 hl1 (fin (.inr (by (first | lia | omega)))) hmax
      · rw [decide_eq_false hlt, if_neg Bool.false_ne_true, if_neg Bool.false_ne_true]
        wtm_at "s1"
        repeat wtm_at "e1"
        exact q H' l hle hl0 hl1 (fin (.inl (by (first | lia | omega)))) hmax

theorem drop_set_lt {α : Type} {l : List α} {i j : Nat} {x : α} (h : i < j) : (l.set i x).drop j = l.drop j := by
  rw [List.drop_set]; rw [if_pos h]


theorem take_away_spec {C : Cx} {A : Around} {H : AH} {F : Nat → Addr} {f b : Addr} {fs ys : List Int} {w at' : Nat} {l : Int} {Q : AV → AH → Prop} (X : FsOk C F) (hA : Room 1 A) (hf : H f = some (.list (fs.map .int))) (hb : H b = some (.list (ys.map .int))) (hbf : b ≠ f)
    (hfl : fs.length ≤ 1000) (hat : at' + ys.length < fs.length) (hw : 1 ≤ w) (hw2 : w ≤ 16) (lf : Limbs (2 ^ w) fs) (ly : Limbs (2 ^ w) ys) (hl : 0 ≤ l ∧ l ≤ 2 ^ w - 1)
    (q : ∀ H' gs h, AH.leB f H H' → H' f = some (.list (gs.map .int)) → Limbs (2 ^ w) gs → gs.length = fs.length → (h = 0 ∨ h = 1) → gs.drop (at' + ys.length + 1) = fs.drop (at' + ys.length + 1) →
      num (2 ^ w) gs = num (2 ^ w) fs - l * ((2 ^ w) ^ at' * num (2 ^ w) ys) + (2 ^ w) ^ (at' + ys.length + 1) * h → Q (.int h) H') :
    CJ C A (.ref (F 20)) H [.ref f, .ref b, .int l, .int at', .int w] Q := by
  have hlen := X.b "len" (by decide)
  have henum := X.b "enumerate" (by decide)
  have hB := two_le_pow hw
  have hB2 := pow2_30 (w := w) (by (first | lia | omega))
  refine CJ.def_ (k := 0) ["rest", "b", "limb", "at", "w"] (X.f 20 (by decide)) hA (by with_unfolding_all rfl) ?_ (by decide) (by rfl) (by rfl) (by rfl) ?_
  · intro doc pm cdv ct an vals hl
    obtain ⟨_, _, _, _, _, rfl⟩ := len5 hl
    rfl
  · intro A' L cd r eo
    have hh := r.handled
    wtm_at "vs"
    wtm_at "s1"
    repeat wtm_at "e1"
    wtm_at "bs"
    repeat wtm_at "e1"
    rw [Int.toNat_natCast, Int.one_mul]
    refine ⟨by wtm_at "sz", fun t H₁ ht hle₁ htt => ⟨t, _, _, rfl, htt, ?_⟩⟩
    wtm_at "s1"
    wtm_at "i1"
    repeat wtm_at "e1"
    refine ⟨_, _, rfl, hle₁ _ _ hb, ?_⟩
    refine ⟨ys.length, fun j V' H' => ∃ gs c, V' "rest" = some (.ref f) ∧ V' "b" = some (.ref b) ∧ V' "limb" = some (.int l) ∧ V' "at" = some (.int at') ∧ V' "w" = some (.int w) ∧ V' "base" = some (.int (2 ^ w)) ∧ V' "carry" = some (.int c) ∧ AH.leB f H H' ∧ H' f = some (.list (gs.map .int)) ∧
      Limbs (2 ^ w) gs ∧ gs.length = fs.length ∧ gs.drop (at' + ys.length) = fs.drop (at' + ys.length) ∧ 0 ≤ c ∧ c ≤ 2 ^ w ∧ num (2 ^ w) gs = num (2 ^ w) fs - l * ((2 ^ w) ^ at' * num (2 ^ w) (ys.take j)) + (2 ^ w) ^ (at' + j) * c,
      ⟨fs, 0, by wtm_at "lk", by wtm_at "lk", by wtm_at "lk", by wtm_at "lk", by wtm_at "lk", by wtm_at "lk", by wtm_at "lk", hle₁.toB, hle₁ _ _ hf, lf, rfl, rfl, by (first | lia | omega), by (first | lia | omega), by simp [num]⟩, ?_, ?_⟩
    · intro j V' H' hj hJ
      refine xe2 hJ fun gs c hI => el15 hI fun vr vb vl va vw vs vc hle hgh lg hgl hgd hc0 hc1 hnum => ?_
      clear hI hJ
      obtain ⟨y, hy'⟩ : ∃ y, ys[j]? = some y := ⟨_, List.getElem?_eq_getElem hj⟩
      obtain ⟨g, hg'⟩ : ∃ g, gs[at' + j]? = some g := ⟨_, List.getElem?_eq_getElem (by (first | lia | omega))⟩
      have hyb := ly.get hy'
      have hgb := lg.get hg'
      have ei : ((at' : Int) + (j : Int)) = ((at' + j : Nat) : Int) := by (first | lia | omega)
      refine ⟨.two (.int j) (.int y), _, by simp only [itemAt]; rw [hle _ _ hbf hb]; simp [hy'], TgtOk.pair rfl rfl StX.fr StX.fr, ?_⟩
      wtm_at "s1"
      repeat wtm_at "e1"
      refine ⟨_, _, _, _, rfl, rfl, hgh, by rw [ei]; exact itI (by (first | lia | omega)) (getI hg'), ?_⟩
      repeat wtm_at "e1"
      refine BO.mul (.of_left (Nat.le_trans (bits_lt (m := w) hl.1 (by (first | lia | omega))) (by (first | lia | omega)))) ?_
      repeat wtm_at "e1"
      refine BO.mod (by (first | lia | omega)) ?_
      repeat wtm_at "e1"
      rw [Int.fmod_eq_emod_of_nonneg _ (by (first | lia | omega))]
      have h0 : 0 ≤ l * y := Int.mul_nonneg hl.1 hyb.1
      have h1 : l * y ≤ (2 ^ w - 1) * (2 ^ w - 1) := Int.mul_le_mul hl.2 (by (first | lia | omega)) hyb.1 (by (first | lia | omega))
      have h1' : (2 ^ w - 1) * (2 ^ w - 1) = (2 ^ w * 2 ^ w - 2 * 2 ^ w + 1 : Int) := by grind
      have hm0 := Int.emod_nonneg (l * y + c) (show (2 : Int) ^ w ≠ 0 by (first | lia | omega))
      have hm1 := Int.emod_lt_of_pos (l * y + c) (show (0 : Int) < 2 ^ w by (first | lia | omega))
      have hem := Int.emod_add_mul_ediv (l * y + c) (2 ^ w)
      have hd0 := Int.ediv_nonneg (show 0 ≤ l * y + c by (first | lia | omega)) (show (0 : Int) ≤ 2 ^ w by (first | lia | omega))
      have hd1 : (l * y + c) / 2 ^ w < 2 ^ w := Int.ediv_lt_of_lt_mul (by (first | lia | omega)) (by (first | lia | omega))
      have e1 : (2 ^ w : Int) ^ (at' + j) * (l * y + c) = (2 ^ w) ^ (at' + j) * ((l * y + c) % 2 ^ w + 2 ^ w * ((l * y + c) / 2 ^ w)) := by rw [hem]
      have e2 : (2 ^ w : Int) ^ (at' + j) = (2 ^ w) ^ at' * (2 ^ w) ^ j := Int.pow_add ..
      by_cases hneg : g - (l * y + c) % 2 ^ w < 0
      · wtm_at "s1"
        repeat wtm_at "e1"
        refine BO.mul (.of_left (Nat.le_trans (bits_lt (m := w) hl.1 (by (first | lia | omega))) (by (first | lia | omega)))) ?_
        repeat wtm_at "e1"
        refine BO.div (by (first | lia | omega)) (by (first | lia | omega)) ?_
        repeat wtm_at "e1"
        rw [decide_eq_true hneg, if_pos rfl]
        repeat wtm_at "e1"
        rw [Int.fdiv_eq_ediv_of_nonneg _ (by (first | lia | omega))]
        wtm_at "s1"
        repeat wtm_at "e1"
        rw [decide_eq_true hneg, if_pos rfl]
        repeat wtm_at "e1"
        refine ⟨_, _, at' + j, rfl, by rw [ei], hgh, lm1 (by (first | lia | omega)), lm2 (by (first | lia | omega)), ?_⟩
        rw [← List.map_set]
        wtm_at "s1"
        refine ⟨gs.set (at' + j) (g - (l * y + c) % 2 ^ w + 2 ^ w), _, by wtm_at "lk", by wtm_at "lk", by wtm_at "lk", by wtm_at "lk", by wtm_at "lk", by wtm_at "lk", by wtm_at "lk", hle.set, AH.set_self, lg.set _ (by (first | lia | omega)), by simp [hgl], by rw [drop_set_lt (by (first | lia | omega))]; exact hgd, by (first | lia | omega), by (first | lia | omega), ?_⟩
        rw [num_set _ _ _ _ _ hg', num_take_succ _ hy', ← Nat.add_assoc, Int.pow_succ]
        generalize (l * y + c) % 2 ^ w = m at *
        generalize (l * y + c) / 2 ^ w = d at *
        grind
      · wtm_at "s1"
        repeat wtm_at "e1"
        refine BO.mul (.of_left (Nat.le_trans (bits_lt (m := w) hl.1 (by (first | lia | omega))) (by (first | lia | omega)))) ?_
        repeat wtm_at "e1"
        refine BO.div (by (first | lia | omega)) (by (first | lia | omega)) ?_
        repeat wtm_at "e1"
        rw [decide_eq_false hneg, if_neg Bool.false_ne_true]
        repeat wtm_at "e1"
        rw [Int.fdiv_eq_ediv_of_nonneg _ (by (first | lia | omega))]
        wtm_at "s1"
        repeat wtm_at "e1"
        rw [decide_eq_false hneg, if_neg Bool.false_ne_true]
        repeat wtm_at "e1"
        refine ⟨_, _, at' + j, rfl, by rw [ei], hgh, lm1 (by (first | lia | omega)), lm2 (by (first | lia | omega)), ?_⟩
        rw [← List.map_set]
        wtm_at "s1"
        refine ⟨gs.set (at' + j) (g - (l * y + c) % 2 ^ w), _, by wtm_at "lk", by wtm_at "lk", by wtm_at "lk", by wtm_at "lk", by wtm_at "lk", by wtm_at "lk", by wtm_at "lk", hle.set, AH.set_self, lg.set _ (by (first | lia | omega)), by simp [hgl], by rw [drop_set_lt (by (first | lia | omega))]; exact hgd, by (first | lia | omega), by (first | lia | omega), ?_⟩
        rw [num_set _ _ _ _ _ hg', num_take_succ _ hy', ← Nat.add_assoc, Int.pow_succ]
        generalize (l * y + c) % 2 ^ w = m at *
        generalize (l * y + c) / 2 ^ w = d at *
        grind
    · intro V' H' hJ
      refine xe2 hJ fun gs c hI => el15 hI fun vr vb vl va vw vs vc hle hgh lg hgl hgd hc0 hc1 hnum => ?_
      clear hI hJ
      refine ⟨by simp only [itemAt]; rw [hle _ _ hbf hb]; simp, ?_⟩
      rw [List.take_length] at hnum
      obtain ⟨g, hg'⟩ : ∃ g, gs[at' + ys.length]? = some g := ⟨_, List.getElem?_eq_getElem (by (first | lia | omega))⟩
      have hgb := lg.get hg'
      have ei : ((at' : Int) + ((ys.map AV.int).length : Int)) = ((at' + ys.length : Nat) : Int) := by simp
      have hdr : gs.drop (at' + ys.length + 1) = fs.drop (at' + ys.length + 1) := by rw [← List.drop_drop, hgd, List.drop_drop]
      wtm_at "s1"
      repeat wtm_at "e1"
      refine CJ.len (hle _ _ hbf hb) (by wtm_at "ln") ?_
      repeat wtm_at "e1"
      refine ⟨_, _, _, _, rfl, rfl, hgh, by rw [ei]; exact itI (by (first | lia | omega)) (getI hg'), ?_⟩
      repeat wtm_at "e1"
      by_cases hneg : g - c < 0
      · wtm_at "s1"
        repeat wtm_at "e1"
        rw [decide_eq_true hneg, if_pos rfl]
        repeat wtm_at "e1"
        refine CJ.len (hle _ _ hbf hb) (by wtm_at "ln") ?_
        repeat wtm_at "e1"
        refine ⟨_, _, at' + ys.length, rfl, by rw [ei], hgh, lm1 (by (first | lia | omega)), lm2 (by (first | lia | omega)), ?_⟩
        rw [← List.map_set]
        wtm_at "s1"
        repeat wtm_at "e1"
        rw [decide_eq_true hneg, if_pos rfl]
        repeat wtm_at "e1"
        refine q _ _ 1 hle.set AH.set_self (lg.set _ (by (first | lia | omega))) (by simp [hgl]) (.inr rfl) (by rw [drop_set_lt (by (first | lia | omega))]; exact hdr) ?_
        rw [num_set _ _ _ _ _ hg', Int.pow_succ]
        grind
      · wtm_at "s1"
        repeat wtm_at "e1"
        rw [decide_eq_false hneg, if_neg Bool.false_ne_true]
        repeat wtm_at "e1"
        refine CJ.len (hle _ _ hbf hb) (by wtm_at "ln") ?_
        repeat wtm_at "e1"
        refine ⟨_, _, at' + ys.length, rfl, by rw [ei], hgh, lm1 (by (first | lia | omega)), lm2 (by (first | lia | omega)), ?_⟩
        rw [← List.map_set]
        wtm_at "s1"
        repeat wtm_at "e1"
        rw [decide_eq_false hneg, if_neg Bool.false_ne_true]
        repeat wtm_at "e1"
        refine q _ _ 0 hle.set AH.set_self (lg.set _ (by (first | lia | omega))) (by simp [hgl]) (.inl rfl) (by rw [drop_set_lt (by (first | lia | omega))]; exact hdr) ?_
        rw [num_set _ _ _ _ _ hg']
        grind

theorem put_back_spec {C : Cx} {A : Around} {H : AH} {F : Nat → Addr} {f b : Addr} {fs ys : List Int} {w at' : Nat} {Q : AV → AH → Prop} (X : FsOk C F) (hA : Room 1 A) (hf : H f = some (.list (fs.map .int))) (hb : H b = some (.list (ys.map .int))) (hbf : b ≠ f)
    (hfl : fs.length ≤ 1000) (hat : at' + ys.length < fs.length) (hw : 1 ≤ w) (hw2 : w ≤ 16) (lf : Limbs (2 ^ w) fs) (ly : Limbs (2 ^ w) ys)
    (q : ∀ H' gs e, AH.leB f H H' → H' f = some (.list (gs.map .int)) → Limbs (2 ^ w) gs → gs.length = fs.length → (e = 0 ∨ e = 1) → gs.drop (at' + ys.length + 1) = fs.drop (at' + ys.length + 1) →
      num (2 ^ w) gs = num (2 ^ w) fs + (2 ^ w) ^ at' * num (2 ^ w) ys - (2 ^ w) ^ (at' + ys.length + 1) * e → Q .none H') :
    CJ C A (.ref (F 21)) H [.ref f, .ref b, .int at', .int w] Q := by
  have hlen := X.b "len" (by decide)
  have henum := X.b "enumerate" (by decide)
  have hB := two_le_pow hw
  have hB2 := pow2_30 (w := w) (by (first | lia | omega))
  refine CJ.def_ (k := 0) ["rest", "b", "at", "w"] (X.f 21 (by decide)) hA (by with_unfolding_all rfl) ?_ (by decide) (by rfl) (by rfl) (by rfl) ?_
  · intro doc pm cdv ct an vals hl
    obtain ⟨_, _, _, _, rfl⟩ := len4 hl
    rfl
  · intro A' L cd r eo
    have hh := r.handled
    wtm_at "vs"
    wtm_at "s1"
    repeat wtm_at "e1"
    wtm_at "bs"
    repeat wtm_at "e1"
    rw [Int.toNat_natCast, Int.one_mul]
    refine ⟨by wtm_at "sz", fun t H₁ ht hle₁ htt => ⟨t, _, _, rfl, htt, ?_⟩⟩
    wtm_at "s1"
    wtm_at "i1"
    repeat wtm_at "e1"
    refine ⟨_, _, rfl, hle₁ _ _ hb, ?_⟩
    refine ⟨ys.length, fun j V' H' => ∃ gs c, V' "rest" = some (.ref f) ∧ V' "b" = some (.ref b) ∧ V' "at" = some (.int at') ∧ V' "w" = some (.int w) ∧ V' "mask" = some (.int (2 ^ w - 1)) ∧ V' "carry" = some (.int c) ∧ AH.leB f H H' ∧ H' f = some (.list (gs.map .int)) ∧
      Limbs (2 ^ w) gs ∧ gs.length = fs.length ∧ gs.drop (at' + ys.length) = fs.drop (at' + ys.length) ∧ 0 ≤ c ∧ c ≤ 1 ∧ num (2 ^ w) gs + (2 ^ w) ^ (at' + j) * c = num (2 ^ w) fs + (2 ^ w) ^ at' * num (2 ^ w) (ys.take j),
      ⟨fs, 0, by wtm_at "lk", by wtm_at "lk", by wtm_at "lk", by wtm_at "lk", by wtm_at "lk", by wtm_at "lk", hle₁.toB, hle₁ _ _ hf, lf, rfl, rfl, by (first | lia | omega), by (first | lia | omega), by simp [num]⟩, ?_, ?_⟩
    · intro j V' H' hj hJ
      refine xe2 hJ fun gs c hI => el14 hI fun vr vb va vw vm vc hle hgh lg hgl hgd hc0 hc1 hnum => ?_
      clear hI hJ
      obtain ⟨y, hy'⟩ : ∃ y, ys[j]? = some y := ⟨_, List.getElem?_eq_getElem hj⟩
      obtain ⟨g, hg'⟩ : ∃ g, gs[at' + j]? = some g := ⟨_, List.getElem?_eq_getElem (by (first | lia | omega))⟩
      have hyb := ly.get hy'
      have hgb := lg.get hg'
      have ei : ((at' : Int) + (j : Int)) = ((at' + j : Nat) : Int) := by (first | lia | omega)
      refine ⟨.two (.int j) (.int y), _, by simp only [itemAt]; rw [hle _ _ hbf hb]; simp [hy'], TgtOk.pair rfl rfl StX.fr StX.fr, ?_⟩
      wtm_at "s1"
      repeat wtm_at "e1"
      refine ⟨_, _, _, _, rfl, rfl, hgh, by rw [ei]; exact itI (by (first | lia | omega)) (getI hg'), ?_⟩
      repeat wtm_at "e1"
      wtm_at "s1"
      repeat wtm_at "e1"
      refine ⟨_, _, at' + j, rfl, by rw [ei], hgh, lm1 (by (first | lia | omega)), lm2 (by (first | lia | omega)), ?_⟩
      wtm_at "nrm"
      rw [← List.map_set]
      wtm_at "s1"
      repeat wtm_at "e1"
      wtm_at "bs"
      wtm_at "s1"
      rw [Int.toNat_natCast, Int.fdiv_eq_ediv_of_nonneg _ (show (0 : Int) ≤ 2 ^ w by (first | lia | omega))]
      have hm0 := Int.emod_nonneg (c + (g + y)) (show (2 : Int) ^ w ≠ 0 by (first | lia | omega))
      have hm1 := Int.emod_lt_of_pos (c + (g + y)) (show (0 : Int) < 2 ^ w by (first | lia | omega))
      have hem := Int.emod_add_mul_ediv (c + (g + y)) (2 ^ w)
      have hd0 := Int.ediv_nonneg (show 0 ≤ c + (g + y) by (first | lia | omega)) (show (0 : Int) ≤ 2 ^ w by (first | lia | omega))
      have hd1 : (c + (g + y)) / 2 ^ w < 2 := Int.ediv_lt_of_lt_mul (by (first | lia | omega)) (by (first | lia | omega))
      refine ⟨gs.set (at' + j) ((c + (g + y)) % 2 ^ w), _, by wtm_at "lk", by wtm_at "lk", by wtm_at "lk", by wtm_at "lk", by wtm_at "lk", by wtm_at "lk", hle.set, AH.set_self, lg.set _ ⟨hm0, hm1⟩, by simp [hgl], by rw [drop_set_lt (by (first | lia | omega))]; exact hgd, hd0, by (first | lia | omega), ?_⟩
      rw [num_set _ _ _ _ _ hg', num_take_succ _ hy', ← Nat.add_assoc, Int.pow_succ]
      have e1 : (2 ^ w : Int) ^ (at' + j) * (c + (g + y)) = (2 ^ w) ^ (at' + j) * ((c + (g + y)) % 2 ^ w + 2 ^ w * ((c + (g + y)) / 2 ^ w)) := by rw [hem]
      have e2 : (2 ^ w : Int) ^ (at' + j) = (2 ^ w) ^ at' * (2 ^ w) ^ j := Int.pow_add ..
      generalize (c + (g + y)) % 2 ^ w = m at *
      generalize (c + (g + y)) / 2 ^ w = d at *
      grind
    · intro V' H' hJ
      refine xe2 hJ fun gs c hI => el14 hI fun vr vb va vw vm vc hle hgh lg hgl hgd hc0 hc1 hnum => ?_
      clear hI hJ
      refine ⟨by simp only [itemAt]; rw [hle _ _ hbf hb]; simp, ?_⟩
      rw [List.take_length] at hnum
      obtain ⟨g, hg'⟩ : ∃ g, gs[at' + ys.length]? = some g := ⟨_, List.getElem?_eq_getElem (by (first | lia | omega))⟩
      have hgb := lg.get hg'
      have ei : ((at' : Int) + ((ys.map AV.int).length : Int)) = ((at' + ys.length : Nat) : Int) := by simp
      have hdr : gs.drop (at' + ys.length + 1) = fs.drop (at' + ys.length + 1) := by rw [← List.drop_drop, hgd, List.drop_drop]
      wtm_at "s1"
      repeat wtm_at "e1"
      refine CJ.len (hle _ _ hbf hb) (by wtm_at "ln") ?_
      repeat wtm_at "e1"
      refine ⟨_, _, _, _, rfl, rfl, hgh, by rw [ei]; exact itI (by (first | lia | omega)) (getI hg'), ?_⟩
      repeat wtm_at "e1"
      refine CJ.len (hle _ _ hbf hb) (by wtm_at "ln") ?_
      repeat wtm_at "e1"
      refine ⟨_, _, at' + ys.length, rfl, by rw [ei], hgh, lm1 (by (first | lia | omega)), lm2 (by (first | lia | omega)), ?_⟩
      wtm_at "nrm"
      rw [← List.map_set]
      wtm_at "s1"
      have hm0 := Int.emod_nonneg (g + c) (show (2 : Int) ^ w ≠ 0 by (first | lia | omega))
      have hm1 := Int.emod_lt_of_pos (g + c) (show (0 : Int) < 2 ^ w by (first | lia | omega))
      have hem := Int.emod_add_mul_ediv (g + c) (2 ^ w)
      have hd0 := Int.ediv_nonneg (show 0 ≤ g + c by (first | lia | omega)) (show (0 : Int) ≤ 2 ^ w by (first | lia | omega))
      have hd1 : (g + c) / 2 ^ w < 2 := Int.ediv_lt_of_lt_mul (by (first | lia | omega)) (by (first | lia | omega))
      refine q _ _ ((g + c) / 2 ^ w) hle.set AH.set_self (lg.set _ ⟨hm0, hm1⟩) (by simp [hgl]) (by (first | lia | omega)) (by rw [drop_set_lt (by (first | lia | omega))]; exact hdr) ?_
      rw [num_set _ _ _ _ _ hg', Int.pow_succ]
      have e1 : (2 ^ w : Int) ^ (at' + ys.length) * (g + c) = (2 ^ w) ^ (at' + ys.length) * ((g + c) % 2 ^ w + 2 ^ w * ((g + c) / 2 ^ w)) := by rw [hem]
      generalize (g + c) % 2 ^ w = m at *
      generalize (g + c) / 2 ^ w = d at *
      grind


theorem knuth {R V A N B lo vlo T V2 l : Int} (hA : 0 < A) (hN : 0 < N) (hB : 2 ≤ B) (hR : R = lo + A * N * T) (hlo : 0 ≤ lo) (hlo2 : lo < A * N) (hV : V = vlo + N * V2) (hv : 0 ≤ vlo) (hv2 : vlo < N) (hV2 : B ≤ V2)
    (hl0 : 0 ≤ l) (hl1 : l ≤ B - 1) (hl : l * V2 ≤ T) (hm : ∀ k, 0 ≤ k → k ≤ B - 1 → k * V2 ≤ T → k ≤ l) (hR0 : 0 ≤ R) (hRV : R < V * A * B) :
    ∃ q, q * (V * A) ≤ R ∧ R < (q + 1) * (V * A) ∧ (l = q ∨ l = q + 1) := by
  have hAN : 0 < A * N := Int.mul_pos hA hN
  have hNV : 0 < N * V2 := Int.mul_pos hN (by (first | lia | omega))
  have hV0 : 0 < V := by (first | lia | omega)
  have hVA : 0 < V * A := Int.mul_pos hV0 hA
  have hq0 : 0 ≤ R / (V * A) := Int.ediv_nonneg hR0 (by (first | lia | omega))
  have hq1 : R / (V * A) < B := Int.ediv_lt_of_lt_mul hVA (by rw [Int.mul_comm]; exact hRV)
  have hq2 : R / (V * A) * (V * A) ≤ R := Int.ediv_mul_le R (by (first | lia | omega))
  have hq3 : R < (R / (V * A) + 1) * (V * A) := Int.lt_ediv_add_one_mul_self R hVA
  generalize R / (V * A) = q at *
  refine ⟨q, hq2, hq3, ?_⟩
  have h1 : q ≤ l := by
    refine hm q hq0 (by (first | lia | omega)) ?_
    have e1 : A * N * (q * V2) ≤ q * (V * A) := by
      have : q * (V * A) = A * N * (q * V2) + q * (vlo * A) := by rw [hV]; grind
      have := Int.mul_nonneg hq0 (Int.mul_nonneg hv (Int.le_of_lt hA))
      (first | lia | omega)
    have e2 : A * N * (q * V2) < A * N * (T + 1) := by rw [Int.mul_add]; (first | lia | omega)
    have := Int.lt_of_mul_lt_mul_left e2 (by (first | lia | omega))
    (first | lia | omega)
  have h2 : l ≤ q + 1 := by
    refine Int.not_lt.mp fun hc => ?_
    have e1 : (q + 1) * (V * A) ≤ (l - 1) * (V * A) := Int.mul_le_mul_of_nonneg_right (by (first | lia | omega)) (by (first | lia | omega))
    have e2 : (l - 1) * (V * A) ≤ (l - 1) * (A * N * (V2 + 1)) := by
      refine Int.mul_le_mul_of_nonneg_left ?_ (by (first | lia | omega))
      have e : A * N * (V2 + 1) = A * (N * V2 + N) := by grind
      rw [e, Int.mul_comm V A]
      exact Int.mul_le_mul_of_nonneg_left (by (first | lia | omega)) (by (first | lia | omega))
    have e3 : A * N * (l * V2) ≤ A * N * T := Int.mul_le_mul_of_nonneg_left hl (by (first | lia | omega))
    have e4 : A * N * (l * V2) < A * N * ((l - 1) * (V2 + 1)) := by
      have : A * N * ((l - 1) * (V2 + 1)) = (l - 1) * (A * N * (V2 + 1)) := by grind
      (first | lia | omega)
    have e5 := Int.lt_of_mul_lt_mul_left e4 (by (first | lia | omega))
    have e6 : (l - 1) * (V2 + 1) = l * V2 + l - V2 - 1 := by grind
    (first | lia | omega)
  (first | lia | omega)
theorem take3 {α : Type} {l : List α} {i : Nat} {x y z : α} (hx : l[i]? = some x) (hy : l[i + 1]? = some y) (hz : l[i + 2]? = some z) : (l.drop i).take 3 = [x, y, z] := by
  obtain ⟨h1, rfl⟩ := List.getElem?_eq_some_iff.mp hx
  obtain ⟨h2, rfl⟩ := List.getElem?_eq_some_iff.mp hy
  obtain ⟨h3, rfl⟩ := List.getElem?_eq_some_iff.mp hz
  rw [List.drop_eq_getElem_cons h1, List.drop_eq_getElem_cons h2, List.drop_eq_getElem_cons h3]
  rfl
theorem num_get1 (B : Int) {l : List Int} {i : Nat} {x : Int} (h : l[i]? = some x) : num B (l.drop i) = x + B * num B (l.drop (i + 1)) := by
  obtain ⟨h1, rfl⟩ := List.getElem?_eq_some_iff.mp h
  rw [List.drop_eq_getElem_cons h1]; rfl
/-- the limbs at i, i+1, i+2 with none above -/
theorem num_three {B : Int} {l : List Int} {i : Nat} {x y z : Int} (hx : l[i]? = some x) (hy : l[i + 1]? = some y) (hz : l[i + 2]? = some z) (h0 : num B (l.drop (i + 3)) = 0) :
    num B l = num B (l.take i) + B ^ i * ((z * B + y) * B + x) := by
  have hi : i < l.length := (List.getElem?_eq_some_iff.mp hx).1
  rw [num_split B l i (by (first | lia | omega)), num_get1 B hx, num_get1 B hy, num_get1 B hz, h0]
  grind
theorem drop_zero {B : Int} (hB : 2 ≤ B) {l : List Int} {k : Nat} (hl : Limbs B l) (hk : k ≤ l.length) (h : num B l < B ^ k) : num B (l.drop k) = 0 := by
  have h1 := num_split B l k hk
  have h2 := num_nonneg (show 0 ≤ B by (first | lia | omega)) (hl.take k)
  have h3 := num_nonneg (show 0 ≤ B by (first | lia | omega)) (hl.drop k)
  have hp := pow_pos' (show 0 < B by (first | lia | omega)) k
  rcases Int.lt_or_eq_of_le h3 with q | q
  · have : B ^ k * 1 ≤ B ^ k * num B (l.drop k) := Int.mul_le_mul_of_nonneg_left (by (first | lia | omega)) (by (first | lia | omega))
    (first | lia | omega)
  · exact q.symm
theorem low_lt {B : Int} (hB : 2 ≤ B) {l : List Int} {k : Nat} (hl : Limbs B l) (hk : k ≤ l.length) (h : num B (l.drop k) = 0) : num B l < B ^ k := by
  have h1 := num_split B l k hk
  have h2 := num_lt (show 0 < B by (first | lia | omega)) (hl.take k)
  rw [List.length_take, Nat.min_eq_left hk] at h2
  rw [h1, h]; (first | lia | omega)
theorem AH.leB.write {f a : Addr} {H H' : AH} {c : Cell} (x : AH.leB f H H') (h : H a = none) : AH.leB f H (H'.set a c) := fun b d n e => by
  rw [AH.set_ne (fun q => by rw [q, h] at e; cases e)]; exact x b d n e


theorem divide_rows_spec {C : Cx} {A : Around} {H : AH} {F : Nat → Addr} {f b : Addr} {fs ys : List Int} {w : Nat} {Q : AV → AH → Prop} (X : FsOk C F) (hA : Room 2 A) (hf : H f = some (.list (fs.map .int))) (hb : H b = some (.list (ys.map .int))) (hbf : b ≠ f)
    (hfl : fs.length ≤ 1000) (hn : 2 ≤ ys.length) (hnf : ys.length ≤ fs.length) (hw : 1 ≤ w) (hw2 : w ≤ 16) (lf : Limbs (2 ^ w) fs) (ly : Limbs (2 ^ w) ys) (htop : (2 ^ w) ^ (ys.length - 1) ≤ num (2 ^ w) ys) (hlt : num (2 ^ w) fs < num (2 ^ w) ys * (2 ^ w) ^ (fs.length - ys.length))
    (q : ∀ H' g gs (qs : List Int), AH.leB f H H' → H' f = some (.list (gs.map .int)) → Limbs (2 ^ w) gs → gs.length = fs.length → num (2 ^ w) gs = num (2 ^ w) fs % num (2 ^ w) ys → H' g = some (.list (qs.map .int)) → qs.length ≤ fs.length → Q (.ref g) H') :
    CJ C A (.ref (F 22)) H [.ref f, .ref b, .int w] Q := by
  have hlen := X.b "len" (by decide)
  have hrange := X.b "range" (by decide)
  have hgm : C.mg "guessed_limb" = _ := X.n (i := 19) (by decide) (by rfl)
  have hgk := X.k (i := 19) (by decide)
  have htm : C.mg "take_away" = _ := X.n (i := 20) (by decide) (by rfl)
  have htk := X.k (i := 20) (by decide)
  have hpm : C.mg "put_back" = _ := X.n (i := 21) (by decide) (by rfl)
  have hpk := X.k (i := 21) (by decide)
  have hB := two_le_pow hw
  have hB2 := pow2_30 (w := w) (by (first | lia | omega))
  have hV := num_lt (show (0 : Int) < 2 ^ w by (first | lia | omega)) ly
  -- the divisor's two top limbs
  obtain ⟨v1, hv1⟩ : ∃ v, ys[ys.length - 1]? = some v := ⟨_, List.getElem?_eq_getElem (by (first | lia | omega))⟩
  obtain ⟨v2, hv2⟩ : ∃ v, ys[ys.length - 2]? = some v := ⟨_, List.getElem?_eq_getElem (by (first | lia | omega))⟩
  have hv1b := ly.get hv1
  have hv2b := ly.get hv2
  have hN := pow_pos' (show (0 : Int) < 2 ^ w by (first | lia | omega)) (ys.length - 2)
  have hvv : num (2 ^ w) ys = num (2 ^ w) (ys.take (ys.length - 2)) + (2 ^ w) ^ (ys.length - 2) * (v1 * 2 ^ w + v2) := by
    rw [num_split (2 ^ w) ys (ys.length - 2) (by (first | lia | omega)), num_get1 _ hv2, show ys.length - 2 + 1 = ys.length - 1 by (first | lia | omega), num_get1 _ hv1, show ys.length - 1 + 1 = ys.length by (first | lia | omega), List.drop_length]
    simp only [num]; grind
  have hvl0 := num_nonneg (show (0 : Int) ≤ 2 ^ w by (first | lia | omega)) (ly.take (ys.length - 2))
  have hvl1 := num_lt (show (0 : Int) < 2 ^ w by (first | lia | omega)) (ly.take (ys.length - 2))
  rw [List.length_take, Nat.min_eq_left (by (first | lia | omega))] at hvl1
  have hv1p : 0 < v1 := by
    rcases Int.lt_or_eq_of_le hv1b.1 with z | z
    · exact z
    · exfalso
      have := num_take_succ (2 ^ w) hv1
      rw [show ys.length - 1 + 1 = ys.length by (first | lia | omega), List.take_length, ← z] at this
      have h2 := num_lt (show (0 : Int) < 2 ^ w by (first | lia | omega)) (ly.take (ys.length - 1))
      rw [List.length_take, Nat.min_eq_left (by (first | lia | omega))] at h2
      (first | lia | omega)
  have hV2 : (2 : Int) ^ w ≤ v1 * 2 ^ w + v2 := by
    have : 1 * (2 : Int) ^ w ≤ v1 * 2 ^ w := Int.mul_le_mul_of_nonneg_right (by (first | lia | omega)) (by (first | lia | omega))
    (first | lia | omega)
  refine CJ.def_ (k := 1) ["rest", "b", "w"] (X.f 22 (by decide)) hA (by with_unfolding_all rfl) ?_ (by decide) (by rfl) (by rfl) (by rfl) ?_
  · intro doc pm cdv ct an vals hl
    obtain ⟨_, _, _, rfl⟩ := len3 hl
    rfl
  · intro A' L cd r eo
    have hh := r.handled
    wtm_at "vs"
    wtm_at "s1"
    repeat wtm_at "e1"
    refine CJ.len hb (by wtm_at "ln") ?_
    wtm_at "s1"
    repeat wtm_at "e1"
    refine ⟨by wtm_at "sz", fun z H₁ hz hle₁ hzz => ?_⟩
    repeat wtm_at "e1"
    refine CJ.len (hle₁ _ _ hf) (by wtm_at "ln") ?_
    repeat wtm_at "e1"
    refine BO.mulN hzz (by simp; (first | lia | omega)) (by simp; (first | lia | omega)) fun g H₂ hg hle₂ hgg => ?_
    have hgn := AH.none_of hle₁ hg
    have hle := hle₁.trans hle₂
    have hgf : f ≠ g := fun e => by rw [← e, hf] at hgn; cases hgn
    wtm_at "nrm"
    rw [List.length_map, List.length_map, show ((fs.length : Int) - (ys.length : Int)).toNat = fs.length - ys.length by (first | lia | omega)] at hgg
    wtm_at "s1"
    wtm_at "i1"
    repeat wtm_at "e1"
    refine CJ.len (hle _ _ hf) (by wtm_at "ln") ?_
    repeat wtm_at "e1"
    refine ⟨_, _, _, .inr (.inr rfl), by simp; (first | lia | omega), by decide, by decide, by decide, ?_⟩
    wtm_at "nrm"
    rw [show ((fs.length : Int) - (ys.length : Int) - 1) = ((fs.length - ys.length : Nat) : Int) - 1 by (first | lia | omega), rangeSize_down, Int.toNat_natCast]
    obtain ⟨m, hm⟩ : ∃ m, m = fs.length - ys.length := ⟨_, rfl⟩
    rw [← hm] at hlt hgg ⊢
    refine ⟨m, fun k V' H' => ∃ gs qs : List Int, V' "rest" = some (.ref f) ∧ V' "b" = some (.ref b) ∧ V' "w" = some (.int w) ∧ V' "size" = some (.int ys.length) ∧ V' "quotient" = some (.ref g) ∧ AH.leB f H H' ∧ H' f = some (.list (gs.map .int)) ∧ H' g = some (.list (qs.map .int)) ∧ qs.length = m ∧
      Limbs (2 ^ w) gs ∧ gs.length = fs.length ∧ num (2 ^ w) gs < num (2 ^ w) ys * (2 ^ w) ^ (m - k) ∧ num (2 ^ w) gs % num (2 ^ w) ys = num (2 ^ w) fs % num (2 ^ w) ys,
      ⟨fs, List.replicate m 0, by wtm_at "lk", by wtm_at "lk", by wtm_at "lk", by wtm_at "lk", by wtm_at "lk", hle.toB, hle _ _ hf, by rw [hgg]; simp, by simp, lf, rfl, hlt, rfl⟩, ?_, ?_⟩
    · intro k V' H' hk hJ
      refine xe2 hJ fun gs qs hI => el13 hI fun vr vb vw vs vq hleB hgh hqh hql lg hgl hnl hmod => ?_
      clear hI hJ
      refine ⟨_, _, by simp only [itemAt]; rw [if_pos (by simpa using hk)], TgtOk.one rfl StX.fr, ?_⟩
      rw [show ((m : Int) - 1 + (k : Int) * -1) = ((m - 1 - k : Nat) : Int) by (first | lia | omega)]
      obtain ⟨p, hp⟩ : ∃ p, p = m - 1 - k := ⟨_, rfl⟩
      rw [← hp]
      have hpk' : m - k = p + 1 := by (first | lia | omega)
      have hpn : p + ys.length + 1 ≤ fs.length := by (first | lia | omega)
      rw [hpk', Int.pow_succ] at hnl
      have hAp := pow_pos' (show (0 : Int) < 2 ^ w by (first | lia | omega)) p
      have hE : (2 ^ w : Int) ^ (p + ys.length + 1) = (2 ^ w) ^ ys.length * ((2 ^ w) ^ p * 2 ^ w) := by rw [Int.pow_succ, Int.pow_add]; grind
      have hAB : 0 < (2 ^ w : Int) ^ p * 2 ^ w := Int.mul_pos hAp (by (first | lia | omega))
      have hVE : num (2 ^ w) ys * ((2 ^ w) ^ p * 2 ^ w) ≤ (2 ^ w) ^ (p + ys.length + 1) := by rw [hE]; exact Int.mul_le_mul_of_nonneg_right (by (first | lia | omega)) (by (first | lia | omega))
      have hdz := drop_zero hB lg (k := p + ys.length + 1) (by (first | lia | omega)) (by (first | lia | omega))
      obtain ⟨t0, ht0⟩ : ∃ v, gs[p + ys.length - 2]? = some v := ⟨_, List.getElem?_eq_getElem (by (first | lia | omega))⟩
      obtain ⟨t1, ht1⟩ : ∃ v, gs[p + ys.length - 2 + 1]? = some v := ⟨_, List.getElem?_eq_getElem (by (first | lia | omega))⟩
      obtain ⟨t2, ht2⟩ : ∃ v, gs[p + ys.length - 2 + 2]? = some v := ⟨_, List.getElem?_eq_getElem (by (first | lia | omega))⟩
      have h3 := num_three (B := 2 ^ w) ht0 ht1 ht2 (by rw [show p + ys.length - 2 + 3 = p + ys.length + 1 by (first | lia | omega)]; exact hdz)
      have hlo0 := num_nonneg (show (0 : Int) ≤ 2 ^ w by (first | lia | omega)) (lg.take (p + ys.length - 2))
      have hlo1 := num_lt (show (0 : Int) < 2 ^ w by (first | lia | omega)) (lg.take (p + ys.length - 2))
      have hAN : (2 ^ w : Int) ^ (p + ys.length - 2) = (2 ^ w) ^ p * (2 ^ w) ^ (ys.length - 2) := by rw [← Int.pow_add]; congr 1; (first | lia | omega)
      rw [List.length_take, Nat.min_eq_left (by (first | lia | omega)), hAN] at hlo1
      rw [hAN] at h3
      have hR0 := num_nonneg (show (0 : Int) ≤ 2 ^ w by (first | lia | omega)) lg
      wtm_at "s1"
      repeat wtm_at "e1"
      refine ⟨f, gs.map .int, rfl, .inl hgh, by wtm_at "sz", fun tp H₃ htp hle₃ htpp => ?_⟩
      rw [show ((p : Int) + (ys.length : Int) - 2) = ((p + ys.length - 2 : Nat) : Int) by (first | lia | omega), show ((p : Int) + (ys.length : Int) + 1) = ((p + ys.length + 1 : Nat) : Int) by (first | lia | omega), sl_run, show p + ys.length + 1 - (p + ys.length - 2) = 3 by (first | lia | omega), take3 (getI ht0) (getI ht1) (getI ht2)] at htpp
      repeat wtm_at "e1"
      refine ⟨_, _, _, _, rfl, rfl, hle₃ _ _ (hleB _ _ hbf hb), .inl ⟨by (first | lia | omega), by (first | lia | omega), by rw [show ((ys.length : Int) - 1).toNat = ys.length - 1 by (first | lia | omega)]; exact getI hv1⟩, ?_⟩
      repeat wtm_at "e1"
      refine ⟨_, _, _, _, rfl, rfl, hle₃ _ _ (hleB _ _ hbf hb), .inl ⟨by (first | lia | omega), by (first | lia | omega), by rw [show ((ys.length : Int) - 2).toNat = ys.length - 2 by (first | lia | omega)]; exact getI hv2⟩, ?_⟩
      repeat wtm_at "e1"
      refine guessed_limb_spec X r htpp hw hw2 (lg.get ht0) (lg.get ht1) (lg.get ht2) ⟨hv1p, hv1b.2⟩ hv2b fun H₄ l hle₄ hl0 hl1 hl2 hl3 => ?_
      obtain ⟨qq, hq1, hq2, hq3⟩ := knuth hAp hN hB h3 hlo0 hlo1 hvv hvl0 hvl1 hV2 hl0 hl1 hl2 hl3 hR0 (by rw [Int.mul_assoc]; exact hnl)
      have hf₄ := hle₄ _ _ (hle₃ _ _ hgh)
      have hb₄ := hle₄ _ _ (hle₃ _ _ (hleB _ _ hbf hb))
      have hq₄ := hle₄ _ _ (hle₃ _ _ hqh)
      have hB₄ : AH.leB f H H₄ := hleB.trans (hle₃.trans hle₄).toB
      have hgl' : gs.length = ys.length + m := by (first | lia | omega)
      have hcomm : (2 ^ w : Int) ^ p * num (2 ^ w) ys = num (2 ^ w) ys * (2 ^ w) ^ p := Int.mul_comm ..
      have hq2' : num (2 ^ w) gs < qq * (num (2 ^ w) ys * (2 ^ w) ^ p) + num (2 ^ w) ys * (2 ^ w) ^ p := by rw [Int.add_mul, Int.one_mul] at hq2; exact hq2
      have hmodq : (num (2 ^ w) gs - qq * (num (2 ^ w) ys * (2 ^ w) ^ p)) % num (2 ^ w) ys = num (2 ^ w) fs % num (2 ^ w) ys := by
        rw [← hmod, show num (2 ^ w) gs - qq * (num (2 ^ w) ys * (2 ^ w) ^ p) = num (2 ^ w) gs + num (2 ^ w) ys * (-(qq * (2 ^ w) ^ p)) by grind, Int.add_mul_emod_self_left]
      refine SJ.ifJ (fun V' H' => ∃ gs' l', V' "rest" = some (.ref f) ∧ V' "b" = some (.ref b) ∧ V' "w" = some (.int w) ∧ V' "size" = some (.int ys.length) ∧ V' "quotient" = some (.ref g) ∧ V' "at" = some (.int p) ∧ V' "limb" = some (.int l') ∧ AH.leB f H H' ∧ H' f = some (.list (gs'.map .int)) ∧ H' g = some (.list (qs.map .int)) ∧
        Limbs (2 ^ w) gs' ∧ gs'.length = fs.length ∧ num (2 ^ w) gs' = num (2 ^ w) gs - qq * (num (2 ^ w) ys * (2 ^ w) ^ p)) ?_ ?_
      · repeat wtm_at "e1"
        refine take_away_spec X r hf₄ hb₄ hbf (by (first | lia | omega)) (by (first | lia | omega)) hw hw2 lg ly ⟨hl0, hl1⟩ fun H₅ us h hle₅ huh lu hul hh01 hud hun => ?_
        have hdu : num (2 ^ w) (us.drop (p + ys.length + 1)) = 0 := by rw [hud]; exact hdz
        have hu0 := num_nonneg (show (0 : Int) ≤ 2 ^ w by (first | lia | omega)) lu
        have hu1 := low_lt hB lu (by (first | lia | omega)) hdu
        have hb₅ := hle₅ _ _ hbf hb₄
        have hq₅ := hle₅ _ _ (Ne.symm hgf) hq₄
        repeat wtm_at "e1"
        rcases hh01 with h01 | h01
        · subst h01
          rw [show ((0 : Int) == 1) = false by rfl, if_neg Bool.false_ne_true]
          wtm_at "s1"
          rw [Int.mul_zero, Int.add_zero, hcomm] at hun
          have hlq : l = qq := by
            rcases hq3 with e | e
            · exact e
            · rw [e, Int.add_mul, Int.one_mul] at hun; (first | lia | omega)
          exact ⟨us, _, by wtm_at "lk", by wtm_at "lk", by wtm_at "lk", by wtm_at "lk", by wtm_at "lk", by wtm_at "lk", by wtm_at "lk", hB₄.trans hle₅, huh, hq₅, lu, by (first | lia | omega), by rw [hun, hlq]⟩
        · subst h01
          rw [show ((1 : Int) == 1) = true by rfl, if_pos rfl]
          rw [Int.mul_one, hcomm] at hun
          have hlq : l = qq + 1 := by
            rcases hq3 with e | e
            · rw [e] at hun; (first | lia | omega)
            · exact e
          wtm_at "s1"
          repeat wtm_at "e1"
          refine SJ.expr ?_ (by rfl) (by wtm_at "rf")
          repeat wtm_at "e1"
          refine put_back_spec X r huh hb₅ hbf (by (first | lia | omega)) (by (first | lia | omega)) hw hw2 lu ly fun H₆ ps e hle₆ hph lp hpl he01 hpd hpn' => ⟨rfl, ?_⟩
          wtm_at "s1"
          have hdp : num (2 ^ w) (ps.drop (p + ys.length + 1)) = 0 := by rw [hpd]; exact hdu
          have hp0 := num_nonneg (show (0 : Int) ≤ 2 ^ w by (first | lia | omega)) lp
          have hp1 := low_lt hB lp (by (first | lia | omega)) hdp
          rw [hun, hlq, hcomm, Int.add_mul, Int.one_mul] at hpn'
          have he : e = 1 := by
            rcases he01 with z | z
            · rw [z] at hpn'; (first | lia | omega)
            · exact z
          refine ⟨ps, _, by wtm_at "lk", by wtm_at "lk", by wtm_at "lk", by wtm_at "lk", by wtm_at "lk", by wtm_at "lk", by wtm_at "lk", (hB₄.trans hle₅).trans hle₆, hph, hle₆ _ _ (Ne.symm hgf) hq₅, lp, by (first | lia | omega), ?_⟩
          rw [hpn', he]; (first | lia | omega)
      · intro V₆ H₆ hJ
        refine xe2 hJ fun gs' l' hI => el13 hI fun vr vb vw vs vq va vl hleB₆ hgh₆ hqh₆ lg₆ hgl₆ hnum₆ => ?_
        clear hI hJ
        wtm_at "s1"
        repeat wtm_at "e1"
        refine ⟨_, _, p, rfl, rfl, hqh₆, lm1 (by (first | lia | omega)), lm2 (by (first | lia | omega)), ?_⟩
        rw [← List.map_set]
        wtm_at "s1"
        refine ⟨gs', qs.set p l', vr, vb, vw, vs, vq, hleB₆.write hgn, by rw [AH.set_ne hgf]; exact hgh₆, AH.set_self, by simp [hql], lg₆, hgl₆, ?_, by rw [hnum₆]; exact hmodq⟩
        rw [hnum₆, show m - (k + 1) = p by (first | lia | omega)]; (first | lia | omega)
    · intro V' H' hJ
      refine xe2 hJ fun gs qs hI => el13 hI fun vr vb vw vs vq hleB hgh hqh hql lg hgl hnl hmod => ?_
      clear hI hJ
      refine ⟨by simp [itemAt], ?_⟩
      wtm_at "s1"
      repeat wtm_at "e1"
      rw [Nat.sub_self, Int.pow_zero, Int.mul_one] at hnl
      refine q H' g gs qs hleB hgh lg hgl ?_ hqh (by (first | lia | omega))
      rw [← hmod, Int.emod_eq_of_lt (num_nonneg (by (first | lia | omega)) lg) hnl]



theorem divrem_school_spec {C : Cx} {A : Around} {H : AH} {F : Nat → Addr} {a b : Addr} {x y : Int} {w : Nat} {Q : AV → AH → Prop} (X : FsOk C F) (hA : Room 4 A) (hw : 1 ≤ w) (hw2 : w ≤ 16) (ha : H a = some (.list ((limb (2 ^ w) x).map .int))) (hb : H b = some (.list ((limb (2 ^ w) y).map .int)))
    (hx : 0 ≤ x) (hy : 0 < y) (hxl : (limb (2 ^ w) x).length ≤ 500) (hyl : (limb (2 ^ w) y).length ≤ 500)
    (q : ∀ H' t g r, AH.le H H' → H' t = some (.tup [g, r]) → LI H' r (limb (2 ^ w) (x % y)) → Q (.ref t) H') : CJ C A (.ref (F 23)) H [.ref a, .ref b, .int w] Q := by
  have hlen := X.b "len" (by decide)
  have hcm : C.mg "compare" = _ := X.n (i := 4) (by decide) (by rfl)
  have hck := X.k (i := 4) (by decide)
  have hsm : C.mg "divrem_small" = _ := X.n (i := 18) (by decide) (by rfl)
  have hsk := X.k (i := 18) (by decide)
  have hbm : C.mg "bits" = _ := X.n (i := 9) (by decide) (by rfl)
  have hbk := X.k (i := 9) (by decide)
  have hlm : C.mg "shift_left" = _ := X.n (i := 7) (by decide) (by rfl)
  have hlk := X.k (i := 7) (by decide)
  have hrm : C.mg "shift_right" = _ := X.n (i := 8) (by decide) (by rfl)
  have hrk := X.k (i := 8) (by decide)
  have hdm : C.mg "divide_rows" = _ := X.n (i := 22) (by decide) (by rfl)
  have hdk := X.k (i := 22) (by decide)
  have hnm : C.mg "normal" = _ := X.n (i := 3) (by decide) (by rfl)
  have hnk := X.k (i := 3) (by decide)
  have hB := two_le_pow hw
  have hB2 := pow2_30 (w := w) (by (first | lia | omega))
  have lx := limbs_limb hB hx
  have ly := limbs_limb hB (show 0 ≤ y by (first | lia | omega))
  have nx := norm_limb hB hx
  have ny := norm_limb hB (show 0 ≤ y by (first | lia | omega))
  have ex := num_limb hB hx
  have ey := num_limb hB (show 0 ≤ y by (first | lia | omega))
  generalize limb (2 ^ w) x = xs at *
  generalize limb (2 ^ w) y = ys at *
  have hy0 : ys ≠ [] := fun e => by rw [e] at ey; simp [num] at ey; (first | lia | omega)
  have hyl0 := List.length_pos_iff.mpr hy0
  refine CJ.def_ (k := 3) ["a", "b", "w"] (X.f 23 (by decide)) hA (by with_unfolding_all rfl) ?_ (by decide) (by rfl) (by rfl) (by rfl) ?_
  · intro doc pm cdv ct an vals hl
    obtain ⟨_, _, _, rfl⟩ := len3 hl
    rfl
  · intro A' L cd r eo
    have hh := r.handled
    wtm_at "vs"
    wtm_at "s1"
    repeat wtm_at "e1"
    refine CJ.len hb (by wtm_at "ln") ?_
    repeat wtm_at "e1"
    rw [show (((ys.map AV.int).length : Int) == 0) = false by simp; (first | lia | omega), if_neg Bool.false_ne_true]
    wtm_at "s1"
    wtm_at "s1"
    repeat wtm_at "e1"
    refine compare_spec (A := A') X (r.less (by decide)) ha hb (by (first | lia | omega)) (by (first | lia | omega)) hB lx ly nx ny fun c hc => ?_
    repeat wtm_at "e1"
    by_cases hlt : c < 0
    · rw [decide_eq_true hlt, if_pos rfl]
      wtm_at "s1"
      repeat wtm_at "e1"
      refine ⟨by wtm_at "sz", fun e H₁ he hle₁ hee => ?_⟩
      repeat wtm_at "e1"
      refine ⟨a, _, rfl, .inl (hle₁ _ _ ha), by wtm_at "sz", fun c H₂ hc' hle₂ hcc => ?_⟩
      repeat wtm_at "e1"
      refine ⟨by wtm_at "sz", fun t H₃ ht hle₃ htt => q H₃ t _ _ (hle₁.trans (hle₂.trans hle₃)) htt (LI.iff.mpr ⟨c, rfl, ?_⟩)⟩
      rw [hle₃ _ _ hcc, sl_all, Int.emod_eq_of_lt hx (by have := hc.mp hlt; (first | lia | omega)), ← ex, limb_of hB lx nx]
    · rw [decide_eq_false hlt, if_neg Bool.false_ne_true]
      have hge : y ≤ x := by
        rcases Int.lt_or_le x y with z | z
        · exact absurd (hc.mpr (by rw [ex, ey]; exact z)) hlt
        · exact z
      wtm_at "s1"
      wtm_at "s1"
      repeat wtm_at "e1"
      refine CJ.len hb (by wtm_at "ln") ?_
      repeat wtm_at "e1"
      wtm_at "nrm"
      by_cases h1 : ys.length = 1
      · rw [show ((ys.length : Int) == 1) = true by simp [h1], if_pos rfl]
        obtain ⟨d, rfl⟩ := List.length_eq_one_iff.mp h1
        have hd := ly d (.head _)
        have hd0 : d ≠ 0 := ny
        have hdy : d = y := by rw [← ey]; simp [num]
        wtm_at "s1"
        repeat wtm_at "e1"
        refine divrem_small_spec X r ha hb (by (first | lia | omega)) hw hw2 lx (by (first | lia | omega)) hd.2 fun H₁ t g r' hle ht hr => ?_
        rw [ex, hdy] at hr
        exact q H₁ t _ _ hle ht hr
      · rw [show ((ys.length : Int) == 1) = false by simp; (first | lia | omega), if_neg Bool.false_ne_true]
        have hyx : ys.length ≤ xs.length := by
          refine Nat.not_lt.mp fun z => ?_
          have := cmp_len hB lx ly ny z
          (first | lia | omega)
        have hx0 : xs ≠ [] := fun e => by rw [e, List.length_nil] at hyx; (first | lia | omega)
        obtain ⟨d, hd⟩ : ∃ d, ys[ys.length - 1]? = some d := ⟨_, List.getElem?_eq_getElem (by (first | lia | omega))⟩
        have hdb := ly.get hd
        have hyge := num_ge hB ly ny hy0
        rw [ey] at hyge
        have hysplit : y = num (2 ^ w) (ys.take (ys.length - 1)) + (2 ^ w) ^ (ys.length - 1) * d := by
          have := num_take_succ (2 ^ w) hd
          rw [show ys.length - 1 + 1 = ys.length by (first | lia | omega), List.take_length, ey] at this
          exact this
        have hylo := num_lt (show (0 : Int) < 2 ^ w by (first | lia | omega)) (ly.take (ys.length - 1))
        rw [List.length_take, Nat.min_eq_left (by (first | lia | omega))] at hylo
        have hylo0 := num_nonneg (show (0 : Int) ≤ 2 ^ w by (first | lia | omega)) (ly.take (ys.length - 1))
        have hdp : 0 < d := by
          rcases Int.lt_or_eq_of_le hdb.1 with z | z
          · exact z
          · rw [← z, Int.mul_zero] at hysplit; (first | lia | omega)
        have hPn := pow_pos' (show (0 : Int) < 2 ^ w by (first | lia | omega)) (ys.length - 1)
        have hib : Builtin.Int.intBits d ≤ w := bits_lt hdb.1 hdb.2
        have hib1 : 1 ≤ Builtin.Int.intBits d := by
          refine Nat.not_lt.mp fun z => ?_
          have := (intBits_le_iff (m := 0) (x := d)).mp (by (first | lia | omega))
          simp at this; (first | lia | omega)
        have hib2 : d < 2 ^ Builtin.Int.intBits d := by
          have h := (intBits_le_iff (x := d)).mp (Nat.le_refl _)
          have h' : ((d.natAbs : Nat) : Int) < ((2 ^ Builtin.Int.intBits d : Nat) : Int) := by (first | lia | omega)
          rw [Int.natCast_pow] at h'
          have e2 : ((2 : Nat) : Int) = 2 := rfl
          rw [e2] at h'; (first | lia | omega)
        obtain ⟨s, hs⟩ : ∃ s, s = w - Builtin.Int.intBits d := ⟨_, rfl⟩
        have hS := pow_pos' (B := 2) (by decide) s
        have hSB : (2 : Int) ^ Builtin.Int.intBits d * 2 ^ s = 2 ^ w := by rw [← Int.pow_add]; congr 1; (first | lia | omega)
        have hyS : y * 2 ^ s < (2 ^ w) ^ ys.length := by
          have e1 : y + 1 ≤ (2 ^ w) ^ (ys.length - 1) * 2 ^ Builtin.Int.intBits d := by
            have : (2 ^ w : Int) ^ (ys.length - 1) * (d + 1) ≤ (2 ^ w) ^ (ys.length - 1) * 2 ^ Builtin.Int.intBits d := Int.mul_le_mul_of_nonneg_left (by (first | lia | omega)) (by (first | lia | omega))
            rw [Int.mul_add] at this; (first | lia | omega)
          have e2 : (y + 1) * 2 ^ s ≤ (2 ^ w) ^ (ys.length - 1) * 2 ^ Builtin.Int.intBits d * 2 ^ s := Int.mul_le_mul_of_nonneg_right e1 (by (first | lia | omega))
          rw [Int.mul_assoc, hSB, ← Int.pow_succ, show (ys.length - 1).succ = ys.length by (first | lia | omega), Int.add_mul] at e2
          (first | lia | omega)
        have hyS1 : y * 1 ≤ y * 2 ^ s := Int.mul_le_mul_of_nonneg_left (by (first | lia | omega)) (by (first | lia | omega))
        wtm_at "s1"
        wtm_at "s1"
        repeat wtm_at "e1"
        refine ⟨_, _, _, _, rfl, rfl, hb, .inr ⟨by decide, by simp; (first | lia | omega), by decide, by rw [show ((-1 : Int) + ((ys.map AV.int).length : Int)).toNat = ys.length - 1 by simp; (first | lia | omega)]; exact getI hd⟩, ?_⟩
        repeat wtm_at "e1"
        refine ⟨by wtm_at "sz", fun z H₁ hz hle₁ hzz => ?_⟩
        repeat wtm_at "e1"
        refine bits_spec (A := A') X (r.less (by decide)) hzz (by (first | lia | omega)) ?_
        repeat wtm_at "e1"
        rw [show ((w : Int) - (Builtin.Int.intBits d : Int)) = (s : Int) by (first | lia | omega)]
        wtm_at "s1"
        repeat wtm_at "e1"
        refine shift_left_spec (A := A') X (r.less (by decide)) (hle₁ _ _ hb) (by (first | lia | omega)) hy0 hw hw2 (by (first | lia | omega)) ly fun H₂ dv ds hle₂ hdvn hdv ld hdn hdl => ?_
        rw [ey] at hdn
        have hdl' : ds.length = ys.length := by
          rcases hdl with z | ⟨_, z⟩
          · exact z
          · (first | lia | omega)
        wtm_at "s1"
        repeat wtm_at "e1"
        refine shift_left_spec (A := A') X (r.less (by decide)) (hle₂ _ _ (hle₁ _ _ ha)) (by (first | lia | omega)) hx0 hw hw2 (by (first | lia | omega)) lx fun H₃ rv rs hle₃ hrvn hrv lr hrn hrl => ?_
        rw [ex] at hrn
        have hrl' : rs.length ≤ xs.length + 1 := by (first | lia | omega)
        have ha₃ := hle₃ _ _ (hle₂ _ _ (hle₁ _ _ ha))
        wtm_at "s1"
        repeat wtm_at "e1"
        refine ⟨by wtm_at "sz", fun z2 H₄ hz2 hle₄ hzz2 => ?_⟩
        repeat wtm_at "e1"
        refine CJ.len (hle₄ _ _ ha₃) (by wtm_at "ln") ?_
        repeat wtm_at "e1"
        refine CJ.len (hle₄ _ _ hrv) (by wtm_at "ln") ?_
        repeat wtm_at "e1"
        wtm_at "nrm"
        refine BO.mulN hzz2 (by (first | lia | omega)) (by (first | lia | omega)) fun pz H₅ hpz hle₅ hpzz => ?_
        refine BO.addN (hle₅ _ _ (hle₄ _ _ hrv)) hpzz (by wtm_at "sz") fun ra H₆ hra hle₆ hraa => ?_
        rw [show ((xs.length : Int) + 1 - (rs.length : Int)).toNat = xs.length + 1 - rs.length by (first | lia | omega), ← List.map_replicate, ← List.map_append] at hraa
        have hle₀₅ := hle₁.trans (hle₂.trans (hle₃.trans (hle₄.trans hle₅)))
        have hran := AH.none_of hle₀₅ hra
        have hdv₅ := hle₅ _ _ (hle₄ _ _ (hle₃ _ _ hdv))
        have hne : dv ≠ ra := fun e => by rw [e, hra] at hdv₅; cases hdv₅
        have hRn : num (2 ^ w) (rs ++ List.replicate (xs.length + 1 - rs.length) 0) = x * 2 ^ s := by rw [num_append, num_zeros, hrn]; simp
        have hRl : (rs ++ List.replicate (xs.length + 1 - rs.length) (0 : Int)).length = xs.length + 1 := by simp; (first | lia | omega)
        have hRL : Limbs (2 ^ w) (rs ++ List.replicate (xs.length + 1 - rs.length) 0) := lr.append (Limbs.zeros (by (first | lia | omega)) _)
        generalize rs ++ List.replicate (xs.length + 1 - rs.length) (0 : Int) = R at *
        have hxlt := num_lt (show (0 : Int) < 2 ^ w by (first | lia | omega)) lx
        rw [ex] at hxlt
        wtm_at "s1"
        repeat wtm_at "e1"
        refine divide_rows_spec (A := A') X (r.less (by decide)) hraa (hle₆ _ _ hdv₅) hne (by (first | lia | omega)) (by (first | lia | omega)) (by (first | lia | omega)) hw hw2 hRL ld (by rw [hdn, hdl']; (first | lia | omega)) ?_ fun H₇ qv gs qs hle₇ hgh lg hgl hgn hqv hql => ?_
        · rw [hRn, hdn, hRl, hdl']
          have e1 : (2 ^ w : Int) ^ (ys.length - 1) * (2 ^ w) ^ (xs.length + 1 - ys.length) ≤ y * (2 ^ w) ^ (xs.length + 1 - ys.length) := Int.mul_le_mul_of_nonneg_right hyge (Int.le_of_lt (pow_pos' (by (first | lia | omega)) _))
          rw [← Int.pow_add, show ys.length - 1 + (xs.length + 1 - ys.length) = xs.length by (first | lia | omega)] at e1
          have e2 : x * 2 ^ s < y * (2 ^ w) ^ (xs.length + 1 - ys.length) * 2 ^ s := Int.mul_lt_mul_of_pos_right (by (first | lia | omega)) hS
          grind
        rw [hRn, hdn, Int.mul_comm x, Int.mul_comm y, Int.mul_emod_mul_of_pos _ _ hS] at hgn
        wtm_at "s1"
        repeat wtm_at "e1"
        refine normal_spec (A := A') X (r.less (by decide)) hqv (by (first | lia | omega)) fun H₈ nq hle₈ hnq => ?_
        repeat wtm_at "e1"
        refine normal_spec (A := A') X (r.less (by decide)) (hle₈ _ _ hgh) (by (first | lia | omega)) fun H₉ nr hle₉ hnr => ?_
        rw [normal_limb hB lg, hgn] at hnr
        obtain ⟨nr', e', hnr'⟩ := LI.iff.mp hnr
        cases e'
        have hm0 := Int.emod_nonneg x (show y ≠ 0 by (first | lia | omega))
        have hm0' : 0 ≤ 2 ^ s * (x % y) := Int.mul_nonneg (by (first | lia | omega)) hm0
        have hln : (limb (2 ^ w) (2 ^ s * (x % y))).length ≤ gs.length := by
          rw [← hgn, ← normal_limb hB lg]
          unfold normalL
          rw [List.length_reverse]
          exact Nat.le_trans (List.dropWhile_sublist _).length_le (by simp)
        repeat wtm_at "e1"
        refine shift_right_spec (A := A') X (r.less (by decide)) hnr' (by (first | lia | omega)) hw hw2 (by (first | lia | omega)) (limbs_limb hB hm0') fun H₁₀ sr hle₁₀ hsr => ?_
        rw [num_limb hB hm0', Int.mul_ediv_cancel_left _ (by (first | lia | omega))] at hsr
        repeat wtm_at "e1"
        refine ⟨by wtm_at "sz", fun t H₁₁ ht hle₁₁ htt => q H₁₁ t _ _ ?_ htt (hsr.up hle₁₁)⟩
        exact ((((hle₀₅.trans hle₆).toB.trans hle₇).trans (hle₈.trans (hle₉.trans (hle₁₀.trans hle₁₁))).toB)).toLe hran

theorem law_number_spec {C : Cx} {A : Around} {H : AH} {F : Nat → Addr} {a : Addr} {xs : List Int} {w : Nat} {Q : AV → AH → Prop} (X : FsOk C F) (hA : Room 1 A) (ha : H a = some (.list (xs.map .int)))
    (hx : xs.length ≤ 1000) (hw : 1 ≤ w) (hw2 : w ≤ 16) (lx : Limbs (2 ^ w) xs)
    (q : ∀ H', AH.le H H' → Q (.int (num (2 ^ w) xs)) H') : CJ C A (.ref (F 27)) H [.ref a, .int w] Q := by
  have hsum := X.b "sum" (by decide)
  have henum := X.b "enumerate" (by decide)
  refine CJ.def_ (k := 0) ["row", "w"] (X.f 27 (by decide)) hA (by with_unfolding_all rfl) ?_ (by decide) (by rfl) (by rfl) (by rfl) ?_
  · intro doc pm cdv ct an vals hl
    obtain ⟨_, _, rfl⟩ := len2 hl
    rfl
  · intro A' L cd r eo
    have hh := r.handled
    wtm_at "vs"
    wtm_at "s1"
    repeat wtm_at "e1"
    wtm_at "comp"
    wtm_at "i1"
    repeat wtm_at "e1"
    refine ⟨_, _, rfl, ha, ?_⟩
    refine ⟨xs.length, fun k ys H' => ∃ ns, ys = ns.map .int ∧ H' = H ∧ ns.sum = num (2 ^ w) (xs.take k), by wtm_at "sz", ⟨[], rfl, rfl, by simp [num]⟩, ?_, ?_⟩
    · rintro L' k ys H' hk ⟨ns, rfl, rfl, hns⟩
      obtain ⟨x, hx'⟩ : ∃ x, xs[k]? = some x := ⟨_, List.getElem?_eq_getElem hk⟩
      have hxb := lx.get hx'
      refine ⟨.two (.int k) (.int x), by simp only [itemAt]; rw [ha]; simp [hx'], fun Vk hVk => ?_⟩
      have vw : Vk "w" = some (.int w) := (hVk "w" (by rfl)).trans (by wtm_at "lk")
      wtm_at "t2"
      repeat wtm_at "e1"
      refine BO.mul (.of_left (Nat.le_trans (bits_lt (m := 16) (by (first | lia | omega)) (by have := pow_le_pow' (B := 2) (by decide) hw2; (first | lia | omega))) (by decide))) ?_
      have hwk : (w : Int) * (k : Int) = ((w * k : Nat) : Int) := by simp
      have hwk2 : w * k ≤ 16 * 1000 := Nat.mul_le_mul hw2 (by (first | lia | omega))
      refine BO.pow (by (first | lia | omega)) (by rw [show Builtin.Int.intBits 2 = 2 by decide]; (first | lia | omega)) ?_
      refine BO.mul (.of_left (Nat.le_trans (bits_lt (m := w) hxb.1 hxb.2) (by (first | lia | omega)))) ?_
      refine ⟨ns ++ [x * 2 ^ (w * k)], by rw [hwk, Int.toNat_natCast]; simp, rfl, ?_⟩
      rw [List.sum_append, hns, num_take_succ _ hx', Int.pow_mul]
      simp; grind
    · rintro ys H' ⟨ns, rfl, rfl, hns⟩
      refine ⟨by simp only [itemAt]; rw [ha]; simp, fun b hb => ?_⟩
      repeat wtm_at "e1"
      refine CJ.sum hh AH.set_self ?_
      rw [hns, List.take_length]
      exact q _ (AH.le_set hb)


noncomputable def prodL : List Int → Int
  | [] => 1
  | x :: r => x * prodL r
theorem prodL_snoc : ∀ (l : List Int) (x : Int), prodL (l ++ [x]) = prodL l * x
  | [], x => by simp [prodL]
  | y :: r, x => by
    show y * prodL (r ++ [x]) = y * prodL r * x
    rw [prodL_snoc r x, Int.mul_assoc]
theorem pow_two_pos (w : Nat) : (0 : Int) < 2 ^ w := pow_pos' (by decide) w


theorem law_limbs_spec {C : Cx} {A : Around} {H : AH} {F : Nat → Addr} {v : Int} {w : Nat} {Q : AV → AH → Prop} (X : FsOk C F) (hA : Room 1 A)
    (hw : 1 ≤ w) (hw2 : w ≤ 16) (hv : 0 ≤ v) (hl : (limb (2 ^ w) v).length ≤ 1000)
    (q : ∀ H' r, AH.le H H' → LI H' (.ref r) (limb (2 ^ w) v) → Q (.ref r) H') : CJ C A (.ref (F 26)) H [.int v, .int w] Q := by
  have hB := two_le_pow hw
  have hB2 := pow2_30 (w := w) (by (first | lia | omega))
  refine CJ.def_ (k := 0) ["number", "w"] (X.f 26 (by decide)) hA (by with_unfolding_all rfl) ?_ (by decide) (by rfl) (by rfl) (by rfl) ?_
  · intro doc pm cdv ct an vals hl
    obtain ⟨_, _, rfl⟩ := len2 hl
    rfl
  · intro A' L cd r eo
    have hh := r.handled
    wtm_at "vs"
    wtm_at "s1"
    repeat wtm_at "e1"
    refine ⟨by wtm_at "sz", fun f H₁ hf hle hff => ?_⟩
    refine SJ.while_ v.toNat (fun n V' H' => ∃ u fs, n = u.toNat ∧ V' "number" = some (.int u) ∧ V' "w" = some (.int w) ∧ V' "found" = some (.ref f) ∧ AH.le H H' ∧ H' f = some (.list (fs.map .int)) ∧ 0 ≤ u ∧ fs ++ limb (2 ^ w) u = limb (2 ^ w) v)
      ⟨v, [], rfl, by wtm_at "lk", by wtm_at "lk", by wtm_at "lk", hle, hff, hv, rfl⟩ ?_
    rintro n V' H' ⟨u, fs, rfl, hI⟩
    refine el7 hI fun vn vw vf hle' hfh hu he => ?_
    clear hI
    repeat wtm_at "e1"
    by_cases h0 : 0 < u
    · rw [decide_eq_true h0, if_pos rfl]
      have hfl : fs.length ≤ 1000 := by
        have := congrArg List.length he
        rw [List.length_append] at this; (first | lia | omega)
      wtm_at "s1"
      repeat wtm_at "e1"
      refine ⟨_, _, rfl, hfh, ?_⟩
      repeat wtm_at "e1"
      refine BO.pow (by (first | lia | omega)) (by rw [show Builtin.Int.intBits 2 = 2 by decide]; (first | lia | omega)) ?_
      rw [Int.toNat_natCast]
      refine BO.mod (by (first | lia | omega)) ?_
      refine ⟨_, hfh, by wtm_at "sz", ?_⟩
      wtm_at "s1"
      repeat wtm_at "e1"
      refine BO.pow (by (first | lia | omega)) (by rw [show Builtin.Int.intBits 2 = 2 by decide]; (first | lia | omega)) ?_
      rw [Int.toNat_natCast]
      refine BO.div (by (first | lia | omega)) (by (first | lia | omega)) ?_
      wtm_at "s1"
      rw [Int.fdiv_eq_ediv_of_nonneg _ (by (first | lia | omega)), Int.fmod_eq_emod_of_nonneg _ (by (first | lia | omega))]
      have h1 := Int.ediv_lt_self_of_pos_of_ne_one h0 (show (2 : Int) ^ w ≠ 1 by (first | lia | omega))
      have h2 := Int.ediv_nonneg hu (show (0 : Int) ≤ 2 ^ w by (first | lia | omega))
      refine ⟨(u / 2 ^ w).toNat, by (first | lia | omega), u / 2 ^ w, fs ++ [u % 2 ^ w], rfl, by wtm_at "lk", by wtm_at "lk", by wtm_at "lk", AH.le_write hle' hf, by rw [AH.set_self]; simp, h2, ?_⟩
      rw [← he, limb_cons hB h0]; simp
    · rw [decide_eq_false h0, if_neg Bool.false_ne_true]
      wtm_at "s1"
      repeat wtm_at "e1"
      rw [limb_nil (by (first | lia | omega)), List.append_nil] at he
      exact q H' f hle' (LI.iff.mpr ⟨f, rfl, by rw [← he]; exact hfh⟩)

theorem law_product_spec {C : Cx} {A : Around} {H : AH} {F : Nat → Addr} {a : Addr} {ns : List Int} {Q : AV → AH → Prop} (X : FsOk C F) (hA : Room 1 A) (ha : H a = some (.list (ns.map .int)))
    (hb : ∀ x ∈ ns, 0 ≤ x ∧ x < 2 ^ 60) (q : Q (.int (prodL ns)) H) : CJ C A (.ref (F 29)) H [.ref a] Q := by
  refine CJ.def_ (k := 0) ["some"] (X.f 29 (by decide)) hA (by with_unfolding_all rfl) ?_ (by decide) (by rfl) (by rfl) (by rfl) ?_
  · intro doc pm cdv ct an vals hl
    obtain ⟨_, rfl⟩ := len1 hl
    rfl
  · intro A' L cd r eo
    have hh := r.handled
    wtm_at "vs"
    wtm_at "s1"
    repeat wtm_at "e1"
    wtm_at "s1"
    wtm_at "i1"
    repeat wtm_at "e1"
    refine ⟨_, _, rfl, ha, ?_⟩
    refine ⟨ns.length, fun k V' H' => V' "found" = some (.int (prodL (ns.take k))) ∧ H' = H, ⟨by rw [VM.set_self]; rfl, rfl⟩, ?_, ?_⟩
    · rintro k V' H' hk ⟨vf, rfl⟩
      obtain ⟨x, hx'⟩ : ∃ x, ns[k]? = some x := ⟨_, List.getElem?_eq_getElem hk⟩
      have hxb := hb x (List.mem_of_getElem? hx')
      refine ⟨.one (.int x), _, by simp only [itemAt]; rw [ha]; simp [hx'], TgtOk.one rfl StX.fr, ?_⟩
      wtm_at "s1"
      repeat wtm_at "e1"
      refine BO.mul (.of_right (Nat.le_trans (bits_lt (m := 60) hxb.1 hxb.2) (by decide))) ?_
      wtm_at "s1"
      refine ⟨?_, rfl⟩
      rw [VM.set_self, take_succ_snoc hx', prodL_snoc]
    · rintro V' H' ⟨vf, rfl⟩
      refine ⟨by simp only [itemAt]; rw [ha]; simp, ?_⟩
      wtm_at "s1"
      repeat wtm_at "e1"
      rw [List.take_length] 
      exact q

theorem law_shaken_spec {C : Cx} {A : Around} {H : AH} {F : Nat → Addr} {b l : Addr} {ns : List Int} {i : Nat} {m : Int} {Q : AV → AH → Prop} (X : FsOk C F) (hA : Room 1 A) (hb : H b = some (.list [.int i, .ref l])) (hl : H l = some (.list (ns.map .int))) (hlb : l ≠ b)
    (hi : i ≤ 1000) (hn : ns.length ≤ 1000) (hm : 0 < m) (q : ∀ r, 0 ≤ r → r < m → Q (.int r) (H.set b (.list [.int ((i + 1 : Nat) : Int), .ref l]))) : CJ C A (.ref (F 25)) H [.ref b, .int m] Q := by
  have hlen := X.b "len" (by decide)
  refine CJ.def_ (k := 0) ["bough", "many"] (X.f 25 (by decide)) hA (by with_unfolding_all rfl) ?_ (by decide) (by rfl) (by rfl) (by rfl) ?_
  · intro doc pm cdv ct an vals hl
    obtain ⟨_, _, rfl⟩ := len2 hl
    rfl
  · intro A' L cd r eo
    have hh := r.handled
    wtm_at "vs"
    wtm_at "s1"
    repeat wtm_at "e1"
    refine ⟨_, _, _, _, rfl, rfl, hb, .inl ⟨by (first | lia | omega), by (first | lia | omega), rfl⟩, ?_⟩
    repeat wtm_at "e1"
    refine ⟨_, _, 0, rfl, rfl, hb, by simp, by simp, ?_⟩
    have hb' : (H.set b (.list ([AV.int i, .ref l].set 0 (.int (i + 1))))) b = some (.list [.int (i + 1), .ref l]) := AH.set_self
    have hl' : (H.set b (.list ([AV.int i, .ref l].set 0 (.int (i + 1))))) l = some (.list (ns.map .int)) := (AH.set_ne hlb).trans hl
    have q' : ∀ r, 0 ≤ r → r < m → Q (.int r) (H.set b (.list ([AV.int i, .ref l].set 0 (.int (i + 1))))) := q
    generalize H.set b (.list ([AV.int i, .ref l].set 0 (.int (i + 1)))) = H₁ at *
    wtm_at "s1"
    repeat wtm_at "e1"
    refine ⟨_, _, _, _, rfl, rfl, hb', .inl ⟨by (first | lia | omega), by (first | lia | omega), rfl⟩, ?_⟩
    repeat wtm_at "e1"
    refine ⟨_, _, _, _, rfl, rfl, hb', .inl ⟨by (first | lia | omega), by (first | lia | omega), rfl⟩, ?_⟩
    repeat wtm_at "e1"
    refine CJ.len hl' (by wtm_at "ln") ?_
    repeat wtm_at "e1"
    wtm_at "nrm"
    by_cases hle : i + 1 ≤ ns.length
    · rw [show decide (((i : Int) + 1) ≤ (ns.length : Int)) = true by simp; (first | lia | omega), if_pos rfl]
      obtain ⟨x, hx'⟩ : ∃ x, ns[i]? = some x := ⟨_, List.getElem?_eq_getElem (by (first | lia | omega))⟩
      wtm_at "s1"
      repeat wtm_at "e1"
      refine ⟨_, _, _, _, rfl, rfl, hb', .inl ⟨by (first | lia | omega), by (first | lia | omega), rfl⟩, ?_⟩
      repeat wtm_at "e1"
      refine ⟨_, _, _, _, rfl, rfl, hb', .inl ⟨by (first | lia | omega), by (first | lia | omega), rfl⟩, ?_⟩
      repeat wtm_at "e1"
      refine ⟨_, _, _, _, rfl, rfl, hl', .inl ⟨by (first | lia | omega), by (first | lia | omega), by rw [show ((i : Int) + 1 - 1).toNat = i by (first | lia | omega)]; exact getI hx'⟩, ?_⟩
      repeat wtm_at "e1"
      refine BO.mod (by (first | lia | omega)) ?_
      rw [Int.fmod_eq_emod_of_nonneg _ (by (first | lia | omega))]
      exact q' _ (Int.emod_nonneg _ (by (first | lia | omega))) (Int.emod_lt_of_pos _ hm)
    · rw [show decide (((i : Int) + 1) ≤ (ns.length : Int)) = false by simp; (first | lia | omega), if_neg Bool.false_ne_true]
      wtm_at "s1"
      wtm_at "s1"
      repeat wtm_at "e1"
      refine ⟨_, _, _, _, rfl, rfl, hb', .inl ⟨by (first | lia | omega), by (first | lia | omega), rfl⟩, ?_⟩
      refine BO.mul (.of_left (by decide)) ?_
      repeat wtm_at "e1"
      refine ⟨_, _, _, _, rfl, rfl, hb', .inl ⟨by (first | lia | omega), by (first | lia | omega), rfl⟩, ?_⟩
      repeat wtm_at "e1"
      refine BO.div (by (first | lia | omega)) (by (first | lia | omega)) ?_
      repeat wtm_at "e1"
      refine BO.mod (by (first | lia | omega)) ?_
      rw [Int.fmod_eq_emod_of_nonneg _ (by (first | lia | omega))]
      exact q' _ (Int.emod_nonneg _ (by (first | lia | omega))) (Int.emod_lt_of_pos _ hm)


/-! ## framing: a call that is told of fewer cells leaves the others as they are -/
theorem CJ.frame {C : Cx} {A : Around} {H₀ H : AH} {g : Value} {avs : List AV} {Q : AV → AH → Prop} (hle : AH.le H₀ H) (x : CJ C A g H₀ avs fun v H₁ => ∀ H', AH.le H₁ H' → (∀ a c, H₀ a = none → H a = some c → H₁ a = none ∧ H' a = some c) → Q v H') : CJ C A g H avs Q := fun s vals e o => by
  have hn : ∀ b, H b = none → H₀ b = none := fun b hb => AH.none_of hle hb
  refine wpAny_mono (x s vals e ⟨o.keep, fun a c ha => o.has a c (hle a c ha), fun a ha => o.new a fun q => ha (hn a q)⟩) (fun v s' ⟨H₁, q, h₁, t₁⟩ => ?_) fun _ _ e => e
  have hdis : ∀ a c, H₀ a = none → H a = some c → H₁ a = none := fun a c h0 hc => by
    cases z : H₁ a with
    | none => rfl
    | some d =>
      have := t₁.dom a h0 (by rw [z]; exact fun q => nomatch q)
      obtain ⟨ob, _, _, ho, _⟩ := (o.has a c hc).seq
      rw [this] at ho; cases ho
  let H' : AH := fun a => match H₁ a with | some c => some c | none => (match H₀ a with | none => H a | some _ => none)
  have e1 : ∀ a c, H₁ a = some c → H' a = some c := fun a c h => by show (match H₁ a with | some c => some c | none => _) = _; rw [h]
  have e2 : ∀ a, H₁ a = none → H₀ a = none → H' a = H a := fun a h h' => by show (match H₁ a with | some c => some c | none => (match H₀ a with | none => H a | some _ => none)) = _; rw [h, h']
  have e3 : ∀ a d, H₁ a = none → H₀ a = some d → H' a = none := fun a d h h' => by show (match H₁ a with | some c => some c | none => (match H₀ a with | none => H a | some _ => none)) = _; rw [h, h']
  refine ⟨H', q H' e1 fun a c h0 hc => ⟨hdis a c h0 hc, by rw [e2 a (hdis a c h0 hc) h0]; exact hc⟩, fun a c ha => ?_, ?_⟩
  · cases z : H₁ a with
    | some d => rw [e1 a d z] at ha; cases ha; exact h₁ a _ z
    | none =>
      cases y : H₀ a with
      | some d => rw [e3 a d z y] at ha; cases ha
      | none =>
        rw [e2 a z y] at ha
        exact (o.has a c ha).at fun ob eb => t₁.keep a ob eb y fun q => q
  · refine ⟨t₁.same, fun b ob eb hb hx => t₁.keep b ob eb (hn b hb) hx, fun b hb hb' => ?_, t₁.alive⟩
    refine t₁.dom b (hn b hb) fun z => hb' ?_
    rw [e2 b z (hn b hb)]; exact hb

/-- a list under way at f: what it is told of lies in the heap without it -/
structure Own (f : Addr) (H₀ H : AH) (us : List AV) : Prop where
  no : H₀ f = none
  le : AH.le H₀ H
  at' : H f = some (.list us)
theorem Own.call {C : Cx} {A : Around} {f : Addr} {H₀ H : AH} {us : List AV} {g : Value} {avs : List AV} {Q : AV → AH → Prop} (o : Own f H₀ H us) (x : CJ C A g H₀ avs fun v H₁ => ∀ H', Own f H₁ H' us → Q v H') : CJ C A g H avs Q :=
  CJ.frame o.le (CJ.mono x fun v H₁ q H' le k => q H' ⟨(k f _ o.no o.at').1, le, (k f _ o.no o.at').2⟩)
theorem Own.write {f : Addr} {H₀ H : AH} {us vs : List AV} (o : Own f H₀ H us) : Own f H₀ (H.set f (.list vs)) vs := ⟨o.no, AH.le_write o.le o.no, AH.set_self⟩
theorem Own.up {f : Addr} {H₀ H H' : AH} {us : List AV} (o : Own f H₀ H us) (h : AH.le H H') : Own f H₀ H' us := ⟨o.no, o.le.trans h, h _ _ o.at'⟩
theorem Own.new {f : Addr} {H H' : AH} {us : List AV} (h : H f = none) (le : AH.le H H') (e : H' f = some (.list us)) : Own f H H' us := ⟨h, le, e⟩

/-! ## the next level -/
noncomputable def la : List Int → List Int
  | x :: y :: r => x * y :: la r
  | l => l
theorem la_even : ∀ (k : Nat) (l r : List Int), l.length = 2 * k → la (l ++ r) = la l ++ la r
  | 0, l, r, h => by rw [List.length_eq_zero_iff.mp h]; rfl
  | k + 1, [], r, h => by simp at h
  | k + 1, [x], r, h => by simp at h; (first | lia | omega)
  | k + 1, x :: y :: l, r, h => by
    show x * y :: la (l ++ r) = x * y :: (la l ++ la r)
    rw [la_even k l r (by simp at h; (first | lia | omega))]
theorem la_short {l : List Int} (h : l.length ≤ 1) : la l = l := by
  match l, h with
  | [], _ => rfl
  | [x], _ => rfl
theorem la_take {l : List Int} {k : Nat} {x y : Int} (hx : l[2 * k]? = some x) (hy : l[2 * k + 1]? = some y) : la (l.take (2 * (k + 1))) = la (l.take (2 * k)) ++ [x * y] := by
  have h1 : 2 * k + 1 < l.length := (List.getElem?_eq_some_iff.mp hy).1
  rw [show 2 * (k + 1) = 2 * k + 1 + 1 by (first | lia | omega), take_succ_snoc hy, take_succ_snoc hx, List.append_assoc, la_even k _ _ (by simp; (first | lia | omega))]
  rfl
theorem la_end (l : List Int) : la l = la (l.take (2 * (l.length / 2))) ++ l.drop (2 * (l.length / 2)) := by
  have h := la_even (l.length / 2) (l.take (2 * (l.length / 2))) (l.drop (2 * (l.length / 2))) (by simp; (first | lia | omega))
  rw [List.take_append_drop] at h
  rw [h, la_short (l := l.drop _) (by simp; (first | lia | omega))]
theorem la_length : ∀ (n : Nat) (l : List Int), l.length = n → (la l).length = (n + 1) / 2
  | 0, l, h => by rw [List.length_eq_zero_iff.mp h]; rfl
  | 1, l, h => by rw [la_short (by (first | lia | omega)), h]
  | n + 2, [], h => by simp at h
  | n + 2, [x], h => by simp at h
  | n + 2, x :: y :: l, h => by
    show (la l).length + 1 = _
    rw [la_length n l (by simpa using h)]; (first | lia | omega)
theorem rangeSize_two (n : Nat) : (Builtin.Range.rangeSize 0 ((n : Int) - 1) 2).toNat = n / 2 := by
  unfold Builtin.Range.rangeSize
  rw [if_pos (by decide)]
  split <;> (first | lia | omega)
theorem rangeSize_twoU (n : Nat) : (Builtin.Range.rangeSize 0 (n : Int) 2).toNat = (n + 1) / 2 := by
  unfold Builtin.Range.rangeSize
  rw [if_pos (by decide)]
  split <;> (first | lia | omega)


theorem level_above_spec {C : Cx} {A : Around} {H : AH} {F : Nat → Addr} {a : Addr} {vs : List Int} {w : Nat} {Q : AV → AH → Prop} (X : FsOk C F) (hA : Room 3 A) (hw : 1 ≤ w) (hw2 : w ≤ 16) (ha : LL H (.ref a) (vs.map (limb (2 ^ w))))
    (hl : vs.length ≤ 1000) (hv : ∀ v ∈ vs, 0 ≤ v ∧ (limb (2 ^ w) v).length ≤ 500) (q : ∀ H' r, AH.le H H' → H r = none → LL H' (.ref r) ((la vs).map (limb (2 ^ w))) → Q (.ref r) H') : CJ C A (.ref (F 11)) H [.ref a, .int w, .ref (F 17)] Q := by
  have hlen := X.b "len" (by decide)
  have hrange := X.b "range" (by decide)
  have hmk := X.k (i := 17) (by decide)
  have hB := two_le_pow hw
  obtain ⟨a', xs, e, hxs, f2⟩ := ha
  cases e
  have hxl : xs.length = vs.length := by rw [f2.length]; simp
  refine CJ.def_ (k := 2) ["level", "w", "mul"] (X.f 11 (by decide)) hA (by with_unfolding_all rfl) ?_ (by decide) (by rfl) (by rfl) (by rfl) ?_
  · intro doc pm cdv ct an vals hl
    obtain ⟨_, _, _, rfl⟩ := len3 hl
    rfl
  · intro A' L cd r eo
    have hh := r.handled
    wtm_at "vs"
    wtm_at "s1"
    repeat wtm_at "e1"
    refine ⟨by wtm_at "sz", fun f H₁ hf hle₁ hff => ?_⟩
    wtm_at "s1"
    wtm_at "i1"
    repeat wtm_at "e1"
    refine CJ.len (hle₁ _ _ hxs) (by (first | lia | omega)) ?_
    repeat wtm_at "e1"
    refine ⟨_, _, _, .inr (.inr rfl), by decide, by (first | lia | omega), by decide, by decide, ?_⟩
    rw [hxl, rangeSize_two]
    refine ⟨vs.length / 2, fun k V' H' => ∃ us H₀, V' "level" = some (.ref a) ∧ V' "w" = some (.int w) ∧ V' "mul" = some (.ref (F 17)) ∧ V' "found" = some (.ref f) ∧ Own f H₀ H' us ∧ AH.le H H₀ ∧ F2 (LI H₀) us ((la (vs.take (2 * k))).map (limb (2 ^ w))),
      ⟨[], H, by wtm_at "lk", by wtm_at "lk", by wtm_at "lk", by wtm_at "lk", .new hf hle₁ hff, AH.le_refl, .nil⟩, ?_, ?_⟩
    · intro k V' H' hk hJ
      refine xe2 hJ fun us H₀ hI => el7 hI fun vl vw vm vf ow hle fu => ?_
      clear hI hJ
      have hul : us.length = k := by rw [fu.length, List.length_map, la_length _ _ rfl, List.length_take]; (first | lia | omega)
      refine ⟨_, _, by simp only [itemAt]; rw [if_pos hk], TgtOk.one rfl StX.fr, ?_⟩
      obtain ⟨x, hx'⟩ : ∃ x, vs[2 * k]? = some x := ⟨_, List.getElem?_eq_getElem (by (first | lia | omega))⟩
      obtain ⟨y, hy'⟩ : ∃ y, vs[2 * k + 1]? = some y := ⟨_, List.getElem?_eq_getElem (by (first | lia | omega))⟩
      refine f2.li (i := 2 * k) (y := limb (2 ^ w) x) (by simp [hx']) fun xa hxv hxa => ?_
      refine f2.li (i := 2 * k + 1) (y := limb (2 ^ w) y) (by simp [hy']) fun ya hyv hya => ?_
      have hxb := hv x (List.mem_of_getElem? hx')
      have hyb := hv y (List.mem_of_getElem? hy')
      rw [show ((0 : Int) + (k : Int) * 2) = ((2 * k : Nat) : Int) by (first | lia | omega)]
      wtm_at "s1"
      repeat wtm_at "e1"
      refine ⟨_, _, rfl, ow.at', ?_⟩
      repeat wtm_at "e1"
      refine ⟨_, _, _, _, rfl, rfl, ow.le _ _ (hle _ _ hxs), itI (by (first | lia | omega)) (hxv), ?_⟩
      repeat wtm_at "e1"
      refine ⟨_, _, _, _, rfl, rfl, ow.le _ _ (hle _ _ hxs), .inl ⟨by (first | lia | omega), by (first | lia | omega), by rw [show (((2 * k : Nat) : Int) + 1).toNat = 2 * k + 1 by (first | lia | omega)]; exact hyv⟩, ?_⟩
      repeat wtm_at "e1"
      refine ow.call (mul_spec X r (hle _ _ hxa) (hle _ _ hya) hxb.2 hyb.2 hw hw2 (limbs_limb hB hxb.1) (limbs_limb hB hyb.1) fun H₁ z hle₁ hz H₂ ow₂ => ?_)
      rw [num_limb hB hxb.1, num_limb hB hyb.1] at hz
      refine ⟨_, ow₂.at', by wtm_at "sz", ?_⟩
      wtm_at "s1"
      refine ⟨_, _, vl, vw, vm, vf, ow₂.write, hle.trans hle₁, ?_⟩
      rw [la_take hx' hy', List.map_append]
      exact (fu.mono fun _ _ => LI.up hle₁).snoc hz
    · intro V' H' hJ
      refine xe2 hJ fun us H₀ hI => el7 hI fun vl vw vm vf ow hle fu => ?_
      clear hI hJ
      have hul : us.length = vs.length / 2 := by rw [fu.length, List.length_map, la_length _ _ rfl, List.length_take]; (first | lia | omega)
      refine ⟨by simp [itemAt], ?_⟩
      wtm_at "s1"
      repeat wtm_at "e1"
      refine CJ.len ow.at' (by (first | lia | omega)) ?_
      repeat wtm_at "e1"
      refine BO.mul (.of_right (by decide)) ?_
      repeat wtm_at "e1"
      refine ⟨a, xs, rfl, .inl (ow.le _ _ (hle _ _ hxs)), by wtm_at "sz", fun c H₂ hc hle₂ hcc => ?_⟩
      rw [hul, show ((vs.length / 2 : Nat) : Int) * 2 = ((2 * (vs.length / 2) : Nat) : Int) by (first | lia | omega), sl_from] at hcc
      refine BO.addN (hle₂ _ _ ow.at') hcc (by wtm_at "sz") fun d H₃ hd hle₃ hdd => ?_
      have hle₀₂ := (hle.trans ow.le).trans hle₂
      refine q H₃ d (hle₀₂.trans hle₃) (AH.none_of hle₀₂ hd) ⟨d, _, rfl, hdd, ?_⟩
      rw [la_end vs, List.map_append, List.map_drop]
      refine F2.append ?_ ?_
      · exact fu.mono fun _ _ => LI.up ((ow.le.trans hle₂).trans hle₃)
      · exact (f2.drop _).mono fun _ _ => LI.up (hle₀₂.trans hle₃)


inductive Tree : List Int → List (List Int) → Prop
  | leaf {l : List Int} : l.length ≤ 1 → Tree l [l]
  | up {l : List Int} {t : List (List Int)} : 1 < l.length → Tree (la l) t → Tree l (l :: t)
theorem Tree.uniq {l : List Int} {t : List (List Int)} (h : Tree l t) : ∀ {t'}, Tree l t' → t = t' := by
  induction h with
  | leaf h => intro t' h'; cases h' with
    | leaf _ => rfl
    | up h2 _ => (first | lia | omega)
  | up h _ ih => intro t' h'; cases h' with
    | leaf h2 => (first | lia | omega)
    | up _ h3 => rw [ih h3]

structure Good (l : List Int) : Prop where
  pos : ∀ v ∈ l, 1 ≤ v
  lt : prodL l < 2 ^ 200
theorem prod_pos : ∀ {l : List Int}, (∀ v ∈ l, 1 ≤ v) → 1 ≤ prodL l
  | [], _ => by simp [prodL]
  | x :: r, h => by
    have h1 := h x (.head _)
    have h2 := prod_pos (l := r) fun v hv => h v (.tail _ hv)
    have := Int.mul_le_mul h1 h2 (by decide) (by (first | lia | omega))
    show 1 ≤ x * prodL r
    (first | lia | omega)
theorem le_prod : ∀ {l : List Int}, (∀ v ∈ l, 1 ≤ v) → ∀ v ∈ l, v ≤ prodL l
  | x :: r, h, v, hv => by
    have h1 := h x (.head _)
    have h2 := prod_pos (l := r) fun v hv => h v (.tail _ hv)
    show v ≤ x * prodL r
    rcases List.mem_cons.mp hv with rfl | hv
    · have := Int.mul_le_mul_of_nonneg_left h2 (show 0 ≤ v by (first | lia | omega)); (first | lia | omega)
    · have h3 := le_prod (l := r) (fun v hv => h v (.tail _ hv)) v hv
      have := Int.mul_le_mul_of_nonneg_right h1 (show 0 ≤ prodL r by (first | lia | omega))
      (first | lia | omega)
theorem prod_la : ∀ (n : Nat) (l : List Int), l.length = n → prodL (la l) = prodL l
  | 0, l, h => by rw [List.length_eq_zero_iff.mp h]; rfl
  | 1, l, h => by rw [la_short (by (first | lia | omega))]
  | n + 2, [], h => by simp at h
  | n + 2, [x], h => by simp at h
  | n + 2, x :: y :: l, h => by
    show x * y * prodL (la l) = x * (y * prodL l)
    rw [prod_la n l (by simpa using h), Int.mul_assoc]
theorem pos_la : ∀ (n : Nat) (l : List Int), l.length = n → (∀ v ∈ l, 1 ≤ v) → ∀ v ∈ la l, 1 ≤ v
  | 0, l, h, hp => by rw [List.length_eq_zero_iff.mp h]; exact fun v hv => nomatch hv
  | 1, l, h, hp => by rw [la_short (by (first | lia | omega))]; exact hp
  | n + 2, [], h, hp => by simp at h
  | n + 2, [x], h, hp => by simp at h
  | n + 2, x :: y :: l, h, hp => fun v hv => by
    have h1 := hp x (.head _)
    have h2 := hp y (.tail _ (.head _))
    rcases List.mem_cons.mp hv with rfl | hv
    · have := Int.mul_le_mul h1 h2 (by decide) (by (first | lia | omega)); (first | lia | omega)
    · exact pos_la n l (by simpa using h) (fun v hv => hp v (.tail _ (.tail _ hv))) v hv
theorem Good.la {l : List Int} (g : Good l) : Good (Mine.la l) := ⟨pos_la _ l rfl g.pos, by rw [prod_la _ l rfl]; exact g.lt⟩
theorem limb_len {w m : Nat} (hw : 1 ≤ w) {v : Int} (h0 : 0 ≤ v) (h : v < 2 ^ m) : (limb (2 ^ w) v).length ≤ m := by
  refine Nat.not_lt.mp fun z => ?_
  have hB := two_le_pow hw
  have h1 := num_ge hB (limbs_limb hB h0) (norm_limb hB h0) (fun e => by rw [e] at z; simp at z)
  rw [num_limb hB h0, ← Int.pow_mul] at h1
  have h2 := pow_le_pow' (B := 2) (by decide) (show m ≤ w * ((limb (2 ^ w) v).length - 1) by
    have : 1 * ((limb (2 ^ w) v).length - 1) ≤ w * ((limb (2 ^ w) v).length - 1) := Nat.mul_le_mul_right _ hw
    (first | lia | omega))
  (first | lia | omega)
theorem Good.len {l : List Int} (g : Good l) {w : Nat} (hw : 1 ≤ w) : ∀ v ∈ l, 0 ≤ v ∧ (limb (2 ^ w) v).length ≤ 200 := fun v hv => by
  have h1 := g.pos v hv
  have h2 := le_prod g.pos v hv
  have h3 := g.lt
  exact ⟨by (first | lia | omega), limb_len hw (by (first | lia | omega)) (by (first | lia | omega))⟩
noncomputable abbrev rows (w : Nat) (l : List Int) : List (List Int) := l.map (limb (2 ^ w))


theorem product_tree_spec {C : Cx} {A : Around} {H : AH} {F : Nat → Addr} {a : Addr} {vs : List Int} {w : Nat} {Q : AV → AH → Prop} (X : FsOk C F) (hA : Room 4 A) (hw : 1 ≤ w) (hw2 : w ≤ 16) (ha : LL H (.ref a) (rows w vs))
    (hl : vs.length ≤ 1000) (hv : Good vs) (q : ∀ H' r t, AH.le H H' → H r = none → Tree vs t → LT H' (.ref r) (t.map (rows w)) → Q (.ref r) H') : CJ C A (.ref (F 12)) H [.ref a, .int w, .ref (F 17)] Q := by
  have hlen := X.b "len" (by decide)
  have hlm : C.mg "level_above" = _ := X.n (i := 11) (by decide) (by rfl)
  have hlk := X.k (i := 11) (by decide)
  have hB := two_le_pow hw
  obtain ⟨a', xs, e, hxs, f2⟩ := ha
  cases e
  have hxl : xs.length = vs.length := by rw [f2.length]; simp
  refine CJ.def_ (k := 3) ["some", "w", "mul"] (X.f 12 (by decide)) hA (by with_unfolding_all rfl) ?_ (by decide) (by rfl) (by rfl) (by rfl) ?_
  · intro doc pm cdv ct an vals hl
    obtain ⟨_, _, _, rfl⟩ := len3 hl
    rfl
  · intro A' L cd r eo
    have hh := r.handled
    wtm_at "vs"
    wtm_at "s1"
    repeat wtm_at "e1"
    refine ⟨a, xs, rfl, .inl hxs, by wtm_at "sz", fun c H₁ hc hle₁ hcc => ?_⟩
    rw [sl_all] at hcc
    repeat wtm_at "e1"
    refine ⟨by wtm_at "sz", fun f H₂ hf hle₂ hff => ?_⟩
    have hfn := AH.none_of hle₁ hf
    refine SJ.while_ vs.length (fun n V' H' => ∃ us H₀ pre last, V' "levels" = some (.ref f) ∧ V' "w" = some (.int w) ∧ V' "mul" = some (.ref (F 17)) ∧ Own f H₀ H' us ∧ AH.le H H₀ ∧ F2 (LL H₀) us ((pre ++ [last]).map (rows w)) ∧
      (∀ t, Tree last t → Tree vs (pre ++ t)) ∧ Good last ∧ last.length = n ∧ pre.length + n ≤ 1000)
      ⟨[.ref c], H₁, [], vs, by wtm_at "lk", by wtm_at "lk", by wtm_at "lk", .new hf hle₂ hff, hle₁, .cons ⟨c, xs, rfl, hcc, f2.mono fun _ _ => LI.up hle₁⟩ .nil, fun t h => h, hv, rfl, by simpa using hl⟩ ?_
    intro n V' H' hJ
    refine xe4 hJ fun us H₀ pre last hI => el10 hI fun vl vw vm ow hle fu htree hg hn hpl => ?_
    clear hI hJ
    subst hn
    have hul : us.length = pre.length + 1 := by rw [fu.length]; simp
    refine fu.ll (i := pre.length) (y := rows w last) (by simp) fun la' ls hlv hls fl => ?_
    have hlsl : ls.length = last.length := by rw [fl.length]; simp
    have hidx : us[((-1 : Int) + us.length).toNat]? = some (.ref la') := by rw [show ((-1 : Int) + us.length).toNat = pre.length by (first | lia | omega)]; exact hlv
    repeat wtm_at "e1"
    refine ⟨_, _, _, _, rfl, rfl, ow.at', .inr ⟨by decide, by (first | lia | omega), by decide, hidx⟩, ?_⟩
    repeat wtm_at "e1"
    refine CJ.len (ow.le _ _ hls) (by (first | lia | omega)) ?_
    repeat wtm_at "e1"
    rw [hlsl]
    by_cases h1 : 1 < last.length
    · rw [show decide ((1 : Int) < (last.length : Int)) = true by simp; (first | lia | omega), if_pos rfl]
      wtm_at "s1"
      repeat wtm_at "e1"
      refine ⟨_, _, rfl, ow.at', ?_⟩
      repeat wtm_at "e1"
      refine ⟨_, _, _, _, rfl, rfl, ow.at', .inr ⟨by decide, by (first | lia | omega), by decide, hidx⟩, ?_⟩
      repeat wtm_at "e1"
      refine ow.call (level_above_spec X r hw hw2 ⟨la', ls, rfl, hls, fl⟩ (by (first | lia | omega)) (fun v hv => ⟨(hg.len hw v hv).1, by have := (hg.len hw v hv).2; (first | lia | omega)⟩) fun H₃ z hle₃ hzn hz H₄ ow₄ => ?_)
      refine ⟨_, ow₄.at', by wtm_at "sz", ?_⟩
      wtm_at "s1"
      have hll := la_length _ last rfl
      refine ⟨(la last).length, by (first | lia | omega), _, _, pre ++ [last], la last, vl, vw, vm, ow₄.write, hle.trans hle₃, ?_, fun t ht => ?_, hg.la, rfl, by simp; (first | lia | omega)⟩
      · rw [List.map_append]
        exact (fu.mono fun _ _ => LL.up hle₃).snoc hz
      · rw [List.append_assoc]
        exact htree _ (.up h1 ht)
    · rw [show decide ((1 : Int) < (last.length : Int)) = false by simp; (first | lia | omega), if_neg Bool.false_ne_true]
      wtm_at "s1"
      repeat wtm_at "e1"
      exact q H' f _ (hle.trans ow.le) hfn (htree _ (.leaf (by (first | lia | omega)))) ⟨f, us, rfl, ow.at', fu.mono fun _ _ => LL.up ow.le⟩


theorem itl {H : AH} {a : Addr} {xs : List AV} {k : Nat} {v : AV} (h : H a = some (.list xs)) (e : xs[k]? = some v) : itemAt H (.list a) k = some (some (.one v)) := by simp only [itemAt, h, e, Option.map_some]
theorem itl_end {H : AH} {a : Addr} {xs : List AV} {k : Nat} (h : H a = some (.list xs)) (e : xs.length ≤ k) : itemAt H (.list a) k = some none := by simp only [itemAt, h, List.getElem?_eq_none e, Option.map_none]
theorem ite {H : AH} {a : Addr} {xs : List AV} {k : Nat} {v : AV} (h : H a = some (.list xs)) (e : xs[k]? = some v) : itemAt H (.enum a) k = some (some (.two (.int k) v)) := by simp only [itemAt, h, e, Option.map_some]
theorem ite_end {H : AH} {a : Addr} {xs : List AV} {k : Nat} (h : H a = some (.list xs)) (e : xs.length ≤ k) : itemAt H (.enum a) k = some none := by simp only [itemAt, h, List.getElem?_eq_none e, Option.map_none]
theorem TJ.call {C : Cx} {A : Around} {env : Env} {V : VM} {H : AH} {Q : Bool → AH → Prop} {f : Expr} {args : List Expr} {kw : List Keyword} {pos : Pos} (h : EJ C A env V H (.Call f args kw pos) fun v H₁ => ∃ x, v = .bool x ∧ Q x H₁) : TJ C A env V H (.Call f args kw pos) Q := fun s o =>
  isTrue_plain (wpAny_mono (h s o) (fun v s₁ ⟨H₁, ⟨x, e, q⟩, h₁, t₁⟩ => by rw [er_bool e]; exact wpAny_truthy_bool ⟨H₁, q, h₁, t₁⟩) fun _ _ e => e) rfl
theorem Tree.head {l : List Int} {t : List (List Int)} (h : Tree l t) : t[0]? = some l := by cases h <;> rfl
theorem Tree.ne {l : List Int} {t : List (List Int)} (h : Tree l t) : 0 < t.length := by cases h <;> simp
theorem Tree.step {l : List Int} {t : List (List Int)} (h : Tree l t) : ∀ {i : Nat} {x y : List Int}, t[i]? = some x → t[i + 1]? = some y → y = la x ∧ 1 < x.length := by
  induction h with
  | leaf h => intro i x y hx hy; simp at hy
  | up h1 h2 ih =>
    intro i x y hx hy
    cases i with
    | zero =>
      simp at hx hy
      have := h2.head
      rw [hy] at this
      rw [← hx, Option.some.inj this]
      exact ⟨rfl, h1⟩
    | succ i => exact ih (by simpa using hx) (by simpa using hy)
theorem Tree.last {l : List Int} {t : List (List Int)} (h : Tree l t) : ∀ {x : List Int}, t[t.length - 1]? = some x → x.length ≤ 1 ∧ (l ≠ [] → x = [prodL l]) := by
  induction h with
  | @leaf l h =>
    intro x hx
    simp at hx; subst hx
    refine ⟨h, fun hn => ?_⟩
    match l, h, hn with
    | [y], _, _ => simp [prodL]
  | @up l t h1 h2 ih =>
    intro x hx
    have hn := h2.ne
    have h3 := ih (x := x) (by rw [← hx, List.length_cons, show t.length + 1 - 1 = (t.length - 1) + 1 by (first | lia | omega), List.getElem?_cons_succ])
    refine ⟨h3.1, fun _ => ?_⟩
    rw [h3.2 fun e => by have := la_length _ l rfl; rw [e] at this; simp at this; (first | lia | omega), prod_la _ l rfl]
theorem Tree.good {l : List Int} {t : List (List Int)} (h : Tree l t) : Good l → l ≠ [] → ∀ x ∈ t, Good x ∧ x.length ≤ l.length ∧ x ≠ [] ∧ prodL x = prodL l := by
  induction h with
  | leaf h => intro g hn x hx; rw [List.mem_singleton.mp hx]; exact ⟨g, Nat.le_refl _, hn, rfl⟩
  | @up l t h1 h2 ih =>
    intro g hn x hx
    have hl := la_length _ l rfl
    rcases List.mem_cons.mp hx with rfl | hx
    · exact ⟨g, Nat.le_refl _, hn, rfl⟩
    · obtain ⟨a, b, c, d⟩ := ih g.la (fun e => by rw [e] at hl; simp at hl; (first | lia | omega)) x hx
      exact ⟨a, by (first | lia | omega), c, by rw [d, prod_la _ l rfl]⟩
theorem Tree.len {l : List Int} {t : List (List Int)} (h : Tree l t) : t.length ≤ max 1 l.length := by
  induction h with
  | leaf h => simp; (first | lia | omega)
  | @up l t h1 h2 ih =>
    have hl := la_length _ l rfl
    simp; (first | lia | omega)
theorem la_dvd : ∀ (n : Nat) (l : List Int) (i : Nat) (v : Int), l.length = n → l[i]? = some v → ∃ m, (la l)[i / 2]? = some m ∧ v ∣ m
  | 0, l, i, v, h, hv => by rw [List.length_eq_zero_iff.mp h] at hv; simp at hv
  | 1, l, i, v, h, hv => by
    have hi : i < l.length := (List.getElem?_eq_some_iff.mp hv).1
    have : i = 0 := by (first | lia | omega)
    subst this
    rw [la_short (by (first | lia | omega))]; exact ⟨v, hv, Int.dvd_refl v⟩
  | n + 2, [], i, v, h, hv => by simp at h
  | n + 2, [x], i, v, h, hv => by simp at h
  | n + 2, x :: y :: l, 0, v, h, hv => ⟨x * y, rfl, by simp at hv; subst hv; exact Int.dvd_mul_right ..⟩
  | n + 2, x :: y :: l, 1, v, h, hv => ⟨x * y, rfl, by simp at hv; subst hv; exact Int.dvd_mul_left ..⟩
  | n + 2, x :: y :: l, i + 2, v, h, hv => by
    obtain ⟨m, hm, hd⟩ := la_dvd n l i v (by simpa using h) (by simpa using hv)
    exact ⟨m, by rw [show (i + 2) / 2 = i / 2 + 1 by (first | lia | omega)]; exact hm, hd⟩


theorem remainder_tree_spec {C : Cx} {A : Around} {H : AH} {F : Nat → Addr} {a b : Addr} {vs : List Int} {t : List (List Int)} {x : Int} {w : Nat} {Q : AV → AH → Prop} (X : FsOk C F) (hA : Room 5 A) (hw : 1 ≤ w) (hw2 : w ≤ 16) (ha : LI H (.ref a) (limb (2 ^ w) x)) (hb : LT H (.ref b) (t.map (rows w)))
    (hx : 0 ≤ x) (hx2 : x < 2 ^ 400) (ht : Tree vs t) (hv : Good vs) (hv0 : vs ≠ []) (hl : vs.length ≤ 1000)
    (q : ∀ H' r, AH.le H H' → LL H' (.ref r) (rows w (vs.map (x % ·))) → Q (.ref r) H') : CJ C A (.ref (F 13)) H [.ref a, .ref b, .int w, .ref (F 23)] Q := by
  have hlen := X.b "len" (by decide)
  have hany := X.b "any" (by decide)
  have henum := X.b "enumerate" (by decide)
  have hdk := X.k (i := 23) (by decide)
  have hB := two_le_pow hw
  obtain ⟨a', e, haa⟩ := LI.iff.mp ha
  cases e
  obtain ⟨b', ts, e, hbb, ft⟩ := hb
  cases e
  have htl : ts.length = t.length := by rw [ft.length]; simp
  have hn := ht.ne
  have hlen2 := ht.len
  refine CJ.def_ (k := 4) ["a", "levels", "w", "divrem"] (X.f 13 (by decide)) hA (by with_unfolding_all rfl) ?_ (by decide) (by rfl) (by rfl) (by rfl) ?_
  · intro doc pm cdv ct an vals hl
    obtain ⟨_, _, _, _, rfl⟩ := len4 hl
    rfl
  · intro A' L cd r eo
    have hh := r.handled
    wtm_at "vs"
    refine ft.ll (i := 0) (y := rows w vs) (by simp [ht.head]) fun l0a l0s hl0 hl0s fl0 => ?_
    have hl0l : l0s.length = vs.length := by rw [fl0.length]; simp
    have hvl := List.length_pos_iff.mpr hv0
    wtm_at "s1"
    repeat wtm_at "e1"
    refine ⟨_, _, _, _, rfl, rfl, hbb, .inl ⟨by decide, by decide, hl0⟩, ?_⟩
    repeat wtm_at "e1"
    refine CJ.len hl0s (by (first | lia | omega)) ?_
    repeat wtm_at "e1"
    rw [show ((l0s.length : Int) == 0) = false by rw [beq_eq_false_iff_ne]; (first | lia | omega), if_neg Bool.false_ne_true]
    wtm_at "s1"
    wtm_at "s1"
    repeat wtm_at "e1"
    refine ⟨by wtm_at "sz", fun f H₁ hf hle₁ hff => ?_⟩
    wtm_at "s1"
    wtm_at "i1"
    repeat wtm_at "e1"
    refine ⟨b, ts, rfl, rfl, hle₁ _ _ hbb, by wtm_at "sz", fun c H₂ hc hle₂ hcc => ?_⟩
    refine ⟨_, _, rfl, hcc, ?_⟩
    have hle₀₂ := hle₁.trans hle₂
    refine ⟨t.length, fun k V' H' => ∃ rr rs ρ, V' "rests" = some (.ref rr) ∧ V' "w" = some (.int w) ∧ V' "divrem" = some (.ref (F 23)) ∧ AH.le H₂ H' ∧ H' rr = some (.list rs) ∧ F2 (LI H') rs (rows w ρ) ∧
      (k = 0 ∧ ρ = [x] ∨ ∃ lv, t[t.length - k]? = some lv ∧ 0 < k ∧ ρ = lv.map (x % ·)),
      ⟨f, [.ref a], [x], by wtm_at "lk", by wtm_at "lk", by wtm_at "lk", AH.le_refl, hle₂ _ _ hff, .cons (ha.up hle₀₂) .nil, .inl ⟨rfl, rfl⟩⟩, ?_, ?_⟩
    · intro k V' H' hk hJ
      refine xe3 hJ fun rr rs ρ hI => el7 hI fun vr vw vd hle hrr fr hρ => ?_
      clear hI hJ
      have hH' := hle₀₂.trans hle
      obtain ⟨lv, hlv⟩ : ∃ lv, t[t.length - 1 - k]? = some lv := ⟨_, List.getElem?_eq_getElem (by (first | lia | omega))⟩
      obtain ⟨hgl, hll, hln, _⟩ := ht.good hv hv0 lv (List.mem_of_getElem? hlv)
      refine ft.ll (i := t.length - 1 - k) (y := rows w lv) (by simp [hlv]) fun lra ls hlr hls fl => ?_
      have hlsl : ls.length = lv.length := by rw [fl.length]; simp
      have hrsl : rs.length = ρ.length := by rw [fr.length]; simp
      have hlvl := List.length_pos_iff.mpr hln
      have hρl : ρ.length ≤ 1000 := by
        rcases hρ with ⟨_, rfl⟩ | ⟨l2, hl2, _, rfl⟩
        · simp
        · have := (ht.good hv hv0 l2 (List.mem_of_getElem? hl2)).2.1; simp; (first | lia | omega)
      -- the rest to be divided
      have hpick : ∀ j v, lv[j]? = some v → ∃ ρv : Int, ρ[if ρ.length < lv.length then j / 2 else j]? = some ρv ∧ ρv % v = x % v ∧ 0 ≤ ρv ∧ ρv ≤ x := by
        intro j v hj
        have hjl : j < lv.length := (List.getElem?_eq_some_iff.mp hj).1
        rcases hρ with ⟨rfl, rfl⟩ | ⟨l2, hl2, h0, rfl⟩
        · have h1 := (ht.last (by rw [show t.length - 1 - 0 = t.length - 1 by (first | lia | omega)] at hlv; exact hlv)).1
          have : j = 0 := by (first | lia | omega)
          subst this
          exact ⟨x, by simp, rfl, hx, Int.le_refl x⟩
        · obtain ⟨rfl, h1⟩ := ht.step hlv (by rw [show t.length - 1 - k + 1 = t.length - k by (first | lia | omega)]; exact hl2)
          have h2 := la_length _ lv rfl
          obtain ⟨m, hm, hd⟩ := la_dvd _ lv j v rfl hj
          have hm1 := (ht.good hv hv0 _ (List.mem_of_getElem? hl2)).1.pos m (List.mem_of_getElem? hm)
          rw [if_pos (by simp; (first | lia | omega))]
          refine ⟨x % m, by simp [hm], Int.emod_emod_of_dvd _ hd, Int.emod_nonneg _ (by (first | lia | omega)), ?_⟩
          have := Int.emod_add_mul_ediv x m
          have := Int.mul_nonneg (show 0 ≤ m by (first | lia | omega)) (Int.ediv_nonneg hx (show 0 ≤ m by (first | lia | omega)))
          (first | lia | omega)
      have hrev : ts.reverse[k]? = some (.ref lra) := by rw [List.getElem?_reverse (by (first | lia | omega)), htl, hlr]
      refine ⟨.one (.ref lra), _, itl (hle _ _ hcc) hrev, TgtOk.one rfl StX.fr, ?_⟩
      wtm_at "s1"
      refine TJ.call ?_
      repeat wtm_at "e1"
      wtm_at "comp"
      wtm_at "i1"
      repeat wtm_at "e1"
      refine ⟨_, _, rfl, hH' _ _ hls, ?_⟩
      refine ⟨lv.length, fun k ys H'' => H'' = H' ∧ ∀ y ∈ ys, y = .bool false, by wtm_at "sz", ⟨rfl, fun y hy => nomatch hy⟩, ?_, ?_⟩
      · rintro L' j ys H'' hj ⟨rfl, hys⟩
        obtain ⟨v, hv'⟩ : ∃ v, lv[j]? = some v := ⟨_, List.getElem?_eq_getElem hj⟩
        refine fl.li (i := j) (y := limb (2 ^ w) v) (by simp [hv']) fun va hvr hva => ?_
        refine ⟨.one (.ref va), itl (hH' _ _ hls) hvr, fun Vk hVk => ?_⟩
        wtm_at "t1"
        repeat wtm_at "e1"
        have hlv1 := hgl.len hw v (List.mem_of_getElem? hv')
        have hv1 := hgl.pos v (List.mem_of_getElem? hv')
        refine CJ.len (hH' _ _ hva) (by wtm_at "ln") ?_
        repeat wtm_at "e1"
        refine ⟨rfl, fun y hy => ?_⟩
        rcases List.mem_append.mp hy with hy | hy
        · exact hys y hy
        · rw [List.mem_singleton.mp hy, limb_cons hB (by (first | lia | omega))]; simp; (first | lia | omega)
      rintro ys H'' ⟨rfl, hys⟩
      refine ⟨itl_end (hH' _ _ hls) (by (first | lia | omega)), fun b hb => ?_⟩
      repeat wtm_at "e1"
      refine CJ.any_false hh AH.set_self hys ?_
      have hleb := AH.le_set (c := .list ys) hb
      generalize H''.set b (.list ys) = H₄ at *
      refine ⟨_, rfl, ?_⟩
      rw [if_neg Bool.false_ne_true]
      wtm_at "s1"
      wtm_at "s1"
      wtm_at "comp"
      wtm_at "i1"
      repeat wtm_at "e1"
      have hH₄ := hH'.trans hleb
      refine ⟨_, _, rfl, hH₄ _ _ hls, ?_⟩
      refine ⟨lv.length, fun j ys H'' => AH.le H₄ H'' ∧ F2 (LI H'') ys (rows w ((lv.take j).map (x % ·))), by wtm_at "sz", ⟨AH.le_refl, .nil⟩, ?_, ?_⟩
      · rintro L' j ys H₅ hj ⟨hle₅, fy⟩
        obtain ⟨v, hv'⟩ : ∃ v, lv[j]? = some v := ⟨_, List.getElem?_eq_getElem hj⟩
        refine fl.li (i := j) (y := limb (2 ^ w) v) (by simp [hv']) fun va hvr hva => ?_
        obtain ⟨ρv, hρv, hρm, hρ0, hρ1⟩ := hpick j v hv'
        refine fr.li (i := if ρ.length < lv.length then j / 2 else j) (y := limb (2 ^ w) ρv) (by simp only [rows, List.getElem?_map, hρv]; rfl) fun pa hpv hpa => ?_
        have hlv1 := hgl.len hw v (List.mem_of_getElem? hv')
        have hv1 := hgl.pos v (List.mem_of_getElem? hv')
        refine ⟨.two (.int j) (.ref va), ite (hle₅ _ _ (hH₄ _ _ hls)) hvr, fun Vk hVk => ?_⟩
        have vw' : Vk "w" = some (.int w) := (hVk "w" (by rfl)).trans (by wtm_at "lk")
        have vd' : Vk "divrem" = some (.ref (F 23)) := (hVk "divrem" (by rfl)).trans (by wtm_at "lk")
        have vr'' : Vk "rests" = some (.ref rr) := (hVk "rests" (by rfl)).trans (by wtm_at "lk")
        have vl' : Vk "level" = some (.ref lra) := (hVk "level" (by rfl)).trans (by wtm_at "lk")
        wtm_at "t2"
        refine EJ.itemT ?_ (by wtm_at "rf")
        repeat wtm_at "e1"
        refine CJ.len (hle₅ _ _ (hleb _ _ hrr)) (by (first | lia | omega)) ?_
        repeat wtm_at "e1"
        refine CJ.len (hle₅ _ _ (hH₄ _ _ hls)) (by (first | lia | omega)) ?_
        repeat wtm_at "e1"
        rw [hrsl, hlsl]
        have fin : ∀ Q : AV → AH → Prop, (∀ H' t g r, AH.le H₅ H' → H' t = some (.tup [g, r]) → LI H' r (limb (2 ^ w) (x % v)) → Q (.ref t) H') → CJ C A' (.ref (F 23)) H₅ [.ref pa, .ref va, .int w] Q := fun Q hq =>
          divrem_school_spec X r hw hw2 (hle₅ _ _ (hleb _ _ hpa)) (hle₅ _ _ (hH₄ _ _ hva)) hρ0 (by (first | lia | omega)) (by have := limb_len hw (m := 400) hρ0 (by (first | lia | omega)); (first | lia | omega)) (by (first | lia | omega)) (by rw [← hρm] at hq; exact hq)
        by_cases hc : ρ.length < lv.length
        · rw [show decide ((ρ.length : Int) < (lv.length : Int)) = true by simp; (first | lia | omega), if_pos rfl]
          rw [if_pos hc] at hpv
          repeat wtm_at "e1"
          refine BO.div (by decide) (by decide) ?_
          rw [show (j : Int).fdiv 2 = ((j / 2 : Nat) : Int) by rw [Int.fdiv_eq_ediv_of_nonneg _ (by decide)]; (first | lia | omega)]
          refine ⟨_, _, _, _, rfl, rfl, hle₅ _ _ (hleb _ _ hrr), itI (by (first | lia | omega)) (hpv), ?_⟩
          repeat wtm_at "e1"
          refine fin _ fun H₆ t' g r' hle₆ ht' hr' => ?_
          repeat wtm_at "e1"
          refine ⟨t', _, 1, r', rfl, rfl, ht', rfl, by decide, hle₅.trans hle₆, ?_⟩
          rw [take_succ_snoc hv', List.map_append, rows, List.map_append]
          exact (fy.mono fun _ _ => LI.up hle₆).snoc hr'
        · rw [show decide ((ρ.length : Int) < (lv.length : Int)) = false by simp; (first | lia | omega), if_neg Bool.false_ne_true]
          rw [if_neg hc] at hpv
          repeat wtm_at "e1"
          refine ⟨_, _, _, _, rfl, rfl, hle₅ _ _ (hleb _ _ hrr), itI (by (first | lia | omega)) (hpv), ?_⟩
          repeat wtm_at "e1"
          refine fin _ fun H₆ t' g r' hle₆ ht' hr' => ?_
          repeat wtm_at "e1"
          refine ⟨t', _, 1, r', rfl, rfl, ht', rfl, by decide, hle₅.trans hle₆, ?_⟩
          rw [take_succ_snoc hv', List.map_append, rows, List.map_append]
          exact (fy.mono fun _ _ => LI.up hle₆).snoc hr'
      · rintro ys' H₅ ⟨hle₅, fy⟩
        refine ⟨ite_end (hle₅ _ _ (hH₄ _ _ hls)) (by (first | lia | omega)), fun b' hb' => ?_⟩
        rw [List.take_length] at fy
        wtm_at "s1"
        exact ⟨b', ys', lv.map (x % ·), by wtm_at "lk", by wtm_at "lk", by wtm_at "lk", hle.trans (hleb.trans (hle₅.trans (AH.le_set hb'))), AH.set_self, fy.mono fun _ _ => LI.up (AH.le_set hb'), .inr ⟨lv, by rw [show t.length - (k + 1) = t.length - 1 - k by (first | lia | omega)]; exact hlv, by (first | lia | omega), rfl⟩⟩
    · intro V' H' hJ
      refine xe3 hJ fun rr rs ρ hI => el7 hI fun vr vw vd hle hrr fr hρ => ?_
      clear hI hJ
      refine ⟨itl_end (hle _ _ hcc) (by rw [List.length_reverse]; (first | lia | omega)), ?_⟩
      wtm_at "s1"
      repeat wtm_at "e1"
      rcases hρ with ⟨z, _⟩ | ⟨lv, hlv, _, rfl⟩
      · (first | lia | omega)
      · rw [Nat.sub_self, ht.head] at hlv
        cases hlv
        exact q H' rr (hle₀₂.trans hle) ⟨rr, rs, rfl, hrr, fr⟩


/-- limbs (normal or not) of a number -/
noncomputable def NI (w : Nat) (H : AH) (v : AV) (x : Int) : Prop := ∃ l, LI H v l ∧ Limbs (2 ^ w) l ∧ num (2 ^ w) l = x ∧ l.length ≤ 450
theorem NI.up {w : Nat} {H H' : AH} {v : AV} {x : Int} (h : AH.le H H') (n : NI w H v x) : NI w H' v x := let ⟨l, a, r⟩ := n; ⟨l, a.up h, r⟩
theorem NI.nonneg {w : Nat} {H : AH} {v : AV} {x : Int} (n : NI w H v x) : 0 ≤ x := by
  obtain ⟨l, _, h, e, _⟩ := n
  rw [← e]; exact num_nonneg (Int.le_of_lt (pow_two_pos w)) h
theorem F2.nonneg {w : Nat} {H : AH} : ∀ {vs : List AV} {xs : List Int}, F2 (NI w H) vs xs → ∀ x ∈ xs, 0 ≤ x
  | _, _, .nil, x, hx => nomatch hx
  | _, _, .cons a r, x, hx => by
    rcases List.mem_cons.mp hx with rfl | hx
    · exact a.nonneg
    · exact r.nonneg x hx

noncomputable def la2 : List Int → List Int → List Int
  | s1 :: s2 :: ss, l1 :: l2 :: ls => (s1 * l2 + s2 * l1) :: la2 ss ls
  | ss, _ => ss
noncomputable def cr : List Int → List Int → Int
  | s :: ss, l :: ls => s * prodL ls + l * cr ss ls
  | _, _ => 0
theorem la2_even : ∀ (k : Nat) (s s' l l' : List Int), s.length = 2 * k → l.length = 2 * k → la2 (s ++ s') (l ++ l') = la2 s l ++ la2 s' l'
  | 0, s, s', l, l', h, h' => by rw [List.length_eq_zero_iff.mp h, List.length_eq_zero_iff.mp h']; simp [la2]
  | k + 1, [], s', l, l', h, h' => by simp at h
  | k + 1, [x], s', l, l', h, h' => by simp at h; (first | lia | omega)
  | k + 1, s1 :: s2 :: s, s', [], l', h, h' => by simp at h'
  | k + 1, s1 :: s2 :: s, s', [x], l', h, h' => by simp at h'; (first | lia | omega)
  | k + 1, s1 :: s2 :: s, s', l1 :: l2 :: l, l', h, h' => by
    show _ :: la2 (s ++ s') (l ++ l') = _ :: (la2 s l ++ la2 s' l')
    rw [la2_even k s s' l l' (by simp at h; (first | lia | omega)) (by simp at h'; (first | lia | omega))]
theorem la2_short {s l : List Int} (h : s.length ≤ 1) : la2 s l = s := by
  match s, h with
  | [], _ => simp [la2]
  | [x], _ => simp [la2]
theorem la2_take {s l : List Int} {k : Nat} {s1 s2 l1 l2 : Int} (h1 : s[2 * k]? = some s1) (h2 : s[2 * k + 1]? = some s2) (h3 : l[2 * k]? = some l1) (h4 : l[2 * k + 1]? = some l2) :
    la2 (s.take (2 * (k + 1))) (l.take (2 * (k + 1))) = la2 (s.take (2 * k)) (l.take (2 * k)) ++ [s1 * l2 + s2 * l1] := by
  have e1 : 2 * k + 1 < s.length := (List.getElem?_eq_some_iff.mp h2).1
  have e2 : 2 * k + 1 < l.length := (List.getElem?_eq_some_iff.mp h4).1
  rw [show 2 * (k + 1) = 2 * k + 1 + 1 by (first | lia | omega), take_succ_snoc h2, take_succ_snoc h1, take_succ_snoc h4, take_succ_snoc h3, List.append_assoc, List.append_assoc, la2_even k _ _ _ _ (by simp; (first | lia | omega)) (by simp; (first | lia | omega))]
  rfl
theorem la2_end (s l : List Int) (h : s.length = l.length) : la2 s l = la2 (s.take (2 * (s.length / 2))) (l.take (2 * (s.length / 2))) ++ s.drop (2 * (s.length / 2)) := by
  have e := la2_even (s.length / 2) (s.take (2 * (s.length / 2))) (s.drop (2 * (s.length / 2))) (l.take (2 * (s.length / 2))) (l.drop (2 * (s.length / 2))) (by simp; (first | lia | omega)) (by simp; (first | lia | omega))
  rw [List.take_append_drop, List.take_append_drop] at e
  rw [e, la2_short (s := s.drop _) (by simp; (first | lia | omega))]
theorem la2_length : ∀ (n : Nat) (s l : List Int), s.length = n → l.length = n → (la2 s l).length = (n + 1) / 2
  | 0, s, l, h, h' => by rw [la2_short (by (first | lia | omega)), h]
  | 1, s, l, h, h' => by rw [la2_short (by (first | lia | omega)), h]
  | n + 2, [], l, h, h' => by simp at h
  | n + 2, [x], l, h, h' => by simp at h
  | n + 2, s1 :: s2 :: s, [], h, h' => by simp at h'
  | n + 2, s1 :: s2 :: s, [x], h, h' => by simp at h'
  | n + 2, s1 :: s2 :: s, l1 :: l2 :: l, h, h' => by
    show (la2 s l).length + 1 = _
    rw [la2_length n s l (by simpa using h) (by simpa using h')]; (first | lia | omega)
theorem cr_la : ∀ (n : Nat) (s l : List Int), s.length = n → l.length = n → cr (la2 s l) (la l) = cr s l
  | 0, s, l, h, h' => by rw [List.length_eq_zero_iff.mp h, List.length_eq_zero_iff.mp h']; rfl
  | 1, s, l, h, h' => by rw [la2_short (by (first | lia | omega)), la_short (by (first | lia | omega))]
  | n + 2, [], l, h, h' => by simp at h
  | n + 2, [x], l, h, h' => by simp at h
  | n + 2, s1 :: s2 :: s, [], h, h' => by simp at h'
  | n + 2, s1 :: s2 :: s, [x], h, h' => by simp at h'
  | n + 2, s1 :: s2 :: s, l1 :: l2 :: l, h, h' => by
    show (s1 * l2 + s2 * l1) * prodL (la l) + l1 * l2 * cr (la2 s l) (la l) = s1 * (l2 * prodL l) + l1 * (s2 * prodL l + l2 * cr s l)
    rw [prod_la _ l rfl, cr_la n s l (by simpa using h) (by simpa using h')]
    grind
theorem cr_nonneg : ∀ (s l : List Int), (∀ x ∈ s, 0 ≤ x) → (∀ x ∈ l, 1 ≤ x) → 0 ≤ cr s l
  | [], l, _, _ => by simp [cr]
  | x :: s, [], _, _ => by simp [cr]
  | x :: s, y :: l, hs, hl => by
    have h1 := hs x (.head _)
    have h2 := hl y (.head _)
    have h3 := prod_pos (l := l) fun v hv => hl v (.tail _ hv)
    have h4 := cr_nonneg s l (fun v hv => hs v (.tail _ hv)) fun v hv => hl v (.tail _ hv)
    have := Int.mul_nonneg h1 (show 0 ≤ prodL l by (first | lia | omega))
    have := Int.mul_nonneg (show 0 ≤ y by (first | lia | omega)) h4
    show 0 ≤ x * prodL l + y * cr s l
    (first | lia | omega)
theorem le_cr : ∀ (s l : List Int), s.length = l.length → (∀ x ∈ s, 0 ≤ x) → (∀ x ∈ l, 1 ≤ x) → ∀ x ∈ s, x ≤ cr s l
  | [], l, _, _, _, x, hx => nomatch hx
  | x :: s, [], h, _, _, z, hz => by simp at h
  | x :: s, y :: l, h, hs, hl, z, hz => by
    have h1 := hs x (.head _)
    have h2 := hl y (.head _)
    have h3 := prod_pos (l := l) fun v hv => hl v (.tail _ hv)
    have h4 := cr_nonneg s l (fun v hv => hs v (.tail _ hv)) fun v hv => hl v (.tail _ hv)
    have e1 := Int.mul_le_mul_of_nonneg_left h3 h1
    have e2 := Int.mul_le_mul_of_nonneg_right h2 h4
    show z ≤ x * prodL l + y * cr s l
    rcases List.mem_cons.mp hz with rfl | hz
    · (first | lia | omega)
    · have := le_cr s l (by simpa using h) (fun v hv => hs v (.tail _ hv)) (fun v hv => hl v (.tail _ hv)) z hz
      (first | lia | omega)


theorem crossed_above_spec {C : Cx} {A : Around} {H : AH} {F : Nat → Addr} {a b : Addr} {ss : List AV} {σ vs : List Int} {w : Nat} {Q : AV → AH → Prop} (X : FsOk C F) (hA : Room 3 A) (hw : 1 ≤ w) (hw2 : w ≤ 16) (ha : H a = some (.list ss)) (fs : F2 (NI w H) ss σ) (hb : LL H (.ref b) (rows w vs))
    (hl : vs.length ≤ 1000) (hsl : σ.length = vs.length) (hv : Good vs) (hs : ∀ s ∈ σ, s < 2 ^ 200) (q : ∀ H' r zs, AH.le H H' → H' r = some (.list zs) → F2 (NI w H') zs (la2 σ vs) → Q (.ref r) H') : CJ C A (.ref (F 14)) H [.ref a, .ref b, .int w, .ref (F 17)] Q := by
  have hlen := X.b "len" (by decide)
  have hrange := X.b "range" (by decide)
  have ham : C.mg "add" = _ := X.n (i := 5) (by decide) (by rfl)
  have hak := X.k (i := 5) (by decide)
  have hmk := X.k (i := 17) (by decide)
  have hB := two_le_pow hw
  obtain ⟨b', xs, e, hxs, f2⟩ := hb
  cases e
  have hxl : xs.length = vs.length := by rw [f2.length]; simp
  have hssl : ss.length = vs.length := by rw [fs.length, hsl]
  have hmul : ∀ s ∈ σ, ∀ v ∈ vs, 0 ≤ s * v ∧ s * v < 2 ^ 400 := fun s hs' v hv' => by
    have h1 := hs s hs'
    have h0 := fs.nonneg s hs'
    have h2 := hv.pos v hv'
    have h3 := le_prod hv.pos v hv'
    have h4 := hv.lt
    refine ⟨Int.mul_nonneg h0 (by (first | lia | omega)), ?_⟩
    have e1 : s * v ≤ s * 2 ^ 200 := Int.mul_le_mul_of_nonneg_left (by (first | lia | omega)) h0
    have e2 : s * 2 ^ 200 < 2 ^ 200 * 2 ^ 200 := Int.mul_lt_mul_of_pos_right h1 (by decide)
    have e3 : (2 : Int) ^ 200 * 2 ^ 200 = 2 ^ 400 := by rw [← Int.pow_add]
    rw [e3] at e2
    exact Int.lt_of_le_of_lt e1 e2
  refine CJ.def_ (k := 2) ["sums", "level", "w", "mul"] (X.f 14 (by decide)) hA (by with_unfolding_all rfl) ?_ (by decide) (by rfl) (by rfl) (by rfl) ?_
  · intro doc pm cdv ct an vals hl
    obtain ⟨_, _, _, _, rfl⟩ := len4 hl
    rfl
  · intro A' L cd r eo
    have hh := r.handled
    wtm_at "vs"
    wtm_at "s1"
    repeat wtm_at "e1"
    refine ⟨by wtm_at "sz", fun f H₁ hf hle₁ hff => ?_⟩
    wtm_at "s1"
    wtm_at "i1"
    repeat wtm_at "e1"
    refine CJ.len (hle₁ _ _ hxs) (by (first | lia | omega)) ?_
    repeat wtm_at "e1"
    refine ⟨_, _, _, .inr (.inr rfl), by decide, by (first | lia | omega), by decide, by decide, ?_⟩
    rw [hxl, rangeSize_two]
    refine ⟨vs.length / 2, fun k V' H' => ∃ us H₀, V' "sums" = some (.ref a) ∧ V' "level" = some (.ref b) ∧ V' "w" = some (.int w) ∧ V' "mul" = some (.ref (F 17)) ∧ V' "found" = some (.ref f) ∧ Own f H₀ H' us ∧ AH.le H H₀ ∧ F2 (NI w H₀) us (la2 (σ.take (2 * k)) (vs.take (2 * k))),
      ⟨[], H, by wtm_at "lk", by wtm_at "lk", by wtm_at "lk", by wtm_at "lk", by wtm_at "lk", .new hf hle₁ hff, AH.le_refl, .nil⟩, ?_, ?_⟩
    · intro k V' H' hk hJ
      refine xe2 hJ fun us H₀ hI => el8 hI fun vss vl vw vm vf ow hle fu => ?_
      clear hI hJ
      have hul : us.length = k := by rw [fu.length, la2_length (2 * k) _ _ (by rw [List.length_take]; (first | lia | omega)) (by rw [List.length_take]; (first | lia | omega))]; (first | lia | omega)
      refine ⟨_, _, by simp only [itemAt]; rw [if_pos hk], TgtOk.one rfl StX.fr, ?_⟩
      obtain ⟨x, hx'⟩ : ∃ x, vs[2 * k]? = some x := ⟨_, List.getElem?_eq_getElem (by (first | lia | omega))⟩
      obtain ⟨y, hy'⟩ : ∃ y, vs[2 * k + 1]? = some y := ⟨_, List.getElem?_eq_getElem (by (first | lia | omega))⟩
      obtain ⟨s1, hs1⟩ : ∃ s, σ[2 * k]? = some s := ⟨_, List.getElem?_eq_getElem (by (first | lia | omega))⟩
      obtain ⟨s2, hs2⟩ : ∃ s, σ[2 * k + 1]? = some s := ⟨_, List.getElem?_eq_getElem (by (first | lia | omega))⟩
      refine f2.li (i := 2 * k) (y := limb (2 ^ w) x) (by simp [hx']) fun xa hxv hxa => ?_
      refine f2.li (i := 2 * k + 1) (y := limb (2 ^ w) y) (by simp [hy']) fun ya hyv hya => ?_
      obtain ⟨s1v, hs1v, ⟨l1, hs1L, ls1, hn1, hl1⟩⟩ := fs.get hs1
      obtain ⟨s2v, hs2v, ⟨l2, hs2L, ls2, hn2, hl2⟩⟩ := fs.get hs2
      obtain ⟨s1a, rfl, hs1a⟩ := LI.iff.mp hs1L
      obtain ⟨s2a, rfl, hs2a⟩ := LI.iff.mp hs2L
      have hxb := hv.len hw x (List.mem_of_getElem? hx')
      have hyb := hv.len hw y (List.mem_of_getElem? hy')
      have hm1 := hmul s1 (List.mem_of_getElem? hs1) y (List.mem_of_getElem? hy')
      have hm2 := hmul s2 (List.mem_of_getElem? hs2) x (List.mem_of_getElem? hx')
      rw [show ((0 : Int) + (k : Int) * 2) = ((2 * k : Nat) : Int) by (first | lia | omega)]
      have e0 : (((2 * k : Nat) : Int) + 1).toNat = 2 * k + 1 := by (first | lia | omega)
      wtm_at "s1"
      repeat wtm_at "e1"
      refine ⟨_, _, _, _, rfl, rfl, ow.le _ _ (hle _ _ ha), itI (by (first | lia | omega)) (hs1v), ?_⟩
      repeat wtm_at "e1"
      refine ⟨_, _, _, _, rfl, rfl, ow.le _ _ (hle _ _ hxs), .inl ⟨by (first | lia | omega), by (first | lia | omega), by rw [e0]; exact hyv⟩, ?_⟩
      repeat wtm_at "e1"
      refine ow.call (mul_spec X r (hle _ _ hs1a) (hle _ _ hya) (by (first | lia | omega)) (by (first | lia | omega)) hw hw2 ls1 (limbs_limb hB hyb.1) fun H₁ z1 hle₁ hz1 H₂ ow₂ => ?_)
      rw [hn1, num_limb hB hyb.1] at hz1
      have hle₁' := hle.trans hle₁
      repeat wtm_at "e1"
      refine ⟨_, _, _, _, rfl, rfl, ow₂.le _ _ (hle₁' _ _ ha), .inl ⟨by (first | lia | omega), by (first | lia | omega), by rw [e0]; exact hs2v⟩, ?_⟩
      repeat wtm_at "e1"
      refine ⟨_, _, _, _, rfl, rfl, ow₂.le _ _ (hle₁' _ _ hxs), itI (by (first | lia | omega)) (hxv), ?_⟩
      repeat wtm_at "e1"
      refine ow₂.call (mul_spec X r (hle₁' _ _ hs2a) (hle₁' _ _ hxa) (by (first | lia | omega)) (by (first | lia | omega)) hw hw2 ls2 (limbs_limb hB hxb.1) fun H₃ z2 hle₃ hz2 H₄ ow₄ => ?_)
      rw [hn2, num_limb hB hxb.1] at hz2
      repeat wtm_at "e1"
      refine ⟨by wtm_at "sz", fun t H₅ ht hle₅ htt => ⟨t, _, _, rfl, htt, ?_⟩⟩
      have ow₅ := ow₄.up hle₅
      obtain ⟨z1a, e, hz1a⟩ := LI.iff.mp hz1
      cases e
      obtain ⟨z2a, e, hz2a⟩ := LI.iff.mp hz2
      cases e
      have k1 := limb_len hw hm1.1 hm1.2
      have k2 := limb_len hw hm2.1 hm2.2
      wtm_at "s1"
      repeat wtm_at "e1"
      refine ⟨_, _, rfl, ow₅.at', ?_⟩
      repeat wtm_at "e1"
      refine ow₅.call (add_spec X (r.less (by decide)) (hle₃ _ _ hz1a) hz2a (by (first | lia | omega)) (by (first | lia | omega)) hw (by (first | lia | omega)) (limbs_limb hB hm1.1) (limbs_limb hB hm2.1) fun H₆ z zs hle₆ hz lz hzn hzl H₇ ow₇ => ?_)
      rw [num_limb hB hm1.1, num_limb hB hm2.1] at hzn
      refine ⟨_, ow₇.at', by wtm_at "sz", ?_⟩
      wtm_at "s1"
      have hle₁₆ := hle₁.trans (hle₃.trans hle₆)
      refine ⟨_, _, by wtm_at "lk", by wtm_at "lk", by wtm_at "lk", by wtm_at "lk", by wtm_at "lk", ow₇.write, hle.trans hle₁₆, ?_⟩
      rw [la2_take hs1 hs2 hx' hy']
      exact (fu.mono fun _ _ => NI.up hle₁₆).snoc ⟨zs, hz, lz, hzn, by (first | lia | omega)⟩
    · intro V' H' hJ
      refine xe2 hJ fun us H₀ hI => el8 hI fun vss vl vw vm vf ow hle fu => ?_
      clear hI hJ
      have hul : us.length = vs.length / 2 := by rw [fu.length, la2_length (2 * (vs.length / 2)) _ _ (by rw [List.length_take]; (first | lia | omega)) (by rw [List.length_take]; (first | lia | omega))]; (first | lia | omega)
      refine ⟨by simp [itemAt], ?_⟩
      wtm_at "s1"
      repeat wtm_at "e1"
      refine CJ.len ow.at' (by (first | lia | omega)) ?_
      repeat wtm_at "e1"
      refine BO.mul (.of_right (by decide)) ?_
      repeat wtm_at "e1"
      refine ⟨a, ss, rfl, .inl (ow.le _ _ (hle _ _ ha)), by wtm_at "sz", fun c H₂ hc hle₂ hcc => ?_⟩
      rw [hul, show ((vs.length / 2 : Nat) : Int) * 2 = ((2 * (vs.length / 2) : Nat) : Int) by (first | lia | omega), sl_from] at hcc
      refine BO.addN (hle₂ _ _ ow.at') hcc (by wtm_at "sz") fun d H₃ hd hle₃ hdd => ?_
      have hle₀₂ := (hle.trans ow.le).trans hle₂
      refine q H₃ d _ (hle₀₂.trans hle₃) hdd ?_
      rw [la2_end σ vs hsl, hsl]
      refine F2.append ?_ ?_
      · exact fu.mono fun _ _ => NI.up ((ow.le.trans hle₂).trans hle₃)
      · exact (fs.drop _).mono fun _ _ => NI.up (hle₀₂.trans hle₃)

theorem crossed_spec {C : Cx} {A : Around} {H : AH} {F : Nat → Addr} {a b : Addr} {ss : List AV} {σ vs : List Int} {t : List (List Int)} {w : Nat} {Q : AV → AH → Prop} (X : FsOk C F) (hA : Room 4 A) (hw : 1 ≤ w) (hw2 : w ≤ 16) (ha : H a = some (.list ss)) (fs : F2 (NI w H) ss σ) (hb : LT H (.ref b) (t.map (rows w)))
    (ht : Tree vs t) (hv0 : vs ≠ []) (hl : vs.length ≤ 1000) (hsl : σ.length = vs.length) (hv : Good vs) (hs : cr σ vs < 2 ^ 200) (q : ∀ H' r, AH.le H H' → NI w H' r (cr σ vs) → Q r H') : CJ C A (.ref (F 15)) H [.ref a, .ref b, .int w, .ref (F 17)] Q := by
  have hlen := X.b "len" (by decide)
  have hcm : C.mg "crossed_above" = _ := X.n (i := 14) (by decide) (by rfl)
  have hck := X.k (i := 14) (by decide)
  have hB := two_le_pow hw
  obtain ⟨b', ts, e, hbb, ft⟩ := hb
  cases e
  have htl : ts.length = t.length := by rw [ft.length]; simp
  have hn := ht.ne
  have hlen2 := ht.len
  refine CJ.def_ (k := 3) ["sums", "levels", "w", "mul"] (X.f 15 (by decide)) hA (by with_unfolding_all rfl) ?_ (by decide) (by rfl) (by rfl) (by rfl) ?_
  · intro doc pm cdv ct an vals hl
    obtain ⟨_, _, _, _, rfl⟩ := len4 hl
    rfl
  · intro A' L cd r eo
    have hh := r.handled
    wtm_at "vs"
    wtm_at "s1"
    wtm_at "i1"
    repeat wtm_at "e1"
    refine ⟨b, ts, rfl, .inl hbb, by wtm_at "sz", fun c H₁ hc hle₁ hcc => ?_⟩
    rw [sl_but] at hcc
    refine ⟨_, _, rfl, hcc, ?_⟩
    refine ⟨t.length - 1, fun k V' H' => ∃ sa ss ρ lv, V' "sums" = some (.ref sa) ∧ V' "w" = some (.int w) ∧ V' "mul" = some (.ref (F 17)) ∧ AH.le H₁ H' ∧ H' sa = some (.list ss) ∧ F2 (NI w H') ss ρ ∧ t[k]? = some lv ∧ ρ.length = lv.length ∧ cr ρ lv = cr σ vs,
      ⟨a, ss, σ, vs, by wtm_at "lk", by wtm_at "lk", by wtm_at "lk", AH.le_refl, hle₁ _ _ ha, fs.mono fun _ _ => NI.up hle₁, ht.head, hsl, rfl⟩, ?_, ?_⟩
    · intro k V' H' hk hJ
      refine xe4 hJ fun sa ss' ρ lv hI => el9 hI fun vss vw vm hle hsa fρ hlv hρl hcr => ?_
      clear hI hJ
      obtain ⟨hgl, hll, hln, _⟩ := ht.good hv hv0 lv (List.mem_of_getElem? hlv)
      refine ft.ll (i := k) (y := rows w lv) (by simp [hlv]) fun lra ls hlr hls fl => ?_
      have hH' := hle₁.trans hle
      refine ⟨.one (.ref lra), _, itl (hle _ _ hcc) (by rw [List.getElem?_take_of_lt (by (first | lia | omega))]; exact hlr), TgtOk.one rfl StX.fr, ?_⟩
      wtm_at "s1"
      repeat wtm_at "e1"
      refine crossed_above_spec X r hw hw2 hsa fρ ⟨lra, ls, rfl, hH' _ _ hls, fl.mono fun _ _ => LI.up hH'⟩ (by (first | lia | omega)) hρl hgl (fun s hs' => ?_) fun H₃ z zs hle₃ hz fz => ?_
      · have := le_cr ρ lv hρl fρ.nonneg hgl.pos s hs'
        (first | lia | omega)
      wtm_at "s1"
      obtain ⟨l2, hl2⟩ : ∃ l2, t[k + 1]? = some l2 := ⟨_, List.getElem?_eq_getElem (by (first | lia | omega))⟩
      obtain ⟨rfl, _⟩ := ht.step hlv hl2
      exact ⟨z, zs, _, _, by wtm_at "lk", by wtm_at "lk", by wtm_at "lk", hle.trans hle₃, hz, fz, hl2, by rw [la2_length _ _ _ rfl hρl.symm, la_length _ _ rfl, hρl], by rw [cr_la _ _ _ rfl hρl.symm, hcr]⟩
    · intro V' H' hJ
      refine xe4 hJ fun sa ss' ρ lv hI => el9 hI fun vss vw vm hle hsa fρ hlv hρl hcr => ?_
      clear hI hJ
      have hlast := (ht.last hlv).2 hv0
      subst hlast
      obtain ⟨s, rfl⟩ := List.length_eq_one_iff.mp hρl
      refine ⟨itl_end (hle _ _ hcc) (by rw [List.length_take]; (first | lia | omega)), ?_⟩
      cases fρ with
      | @cons sv _ _ _ hsv fr =>
        cases fr
        wtm_at "s1"
        repeat wtm_at "e1"
        refine CJ.len hsa (by simp) ?_
        repeat wtm_at "e1"
        rw [show decide ((0 : Int) < (([sv].length : Nat) : Int)) = true by rfl, if_pos rfl]
        repeat wtm_at "e1"
        refine ⟨_, _, _, _, rfl, rfl, hsa, .inl ⟨by decide, by decide, rfl⟩, ?_⟩
        refine q H' sv (hle₁.trans hle) ?_
        rw [← hcr]
        simpa [cr, prodL] using hsv


noncomputable def AH.del (H : AH) (f : Addr) : AH := fun a => if a = f then none else H a
theorem AH.del_self {H : AH} {f : Addr} : H.del f f = none := if_pos rfl
theorem AH.del_ne {H : AH} {a f : Addr} (h : a ≠ f) : H.del f a = H a := if_neg h
theorem AH.del_le {H : AH} {f : Addr} : AH.le (H.del f) H := fun a c e => by
  by_cases q : a = f
  · rw [q, AH.del_self] at e; cases e
  · rwa [AH.del_ne q] at e
theorem Own.full {f : Addr} {H₀ H H₃ : AH} {us : List AV} (o : Own f H₀ H us) (h : AH.le H H₃) : Own f (H₃.del f) H₃ us ∧ AH.le H₀ (H₃.del f) :=
  ⟨⟨AH.del_self, AH.del_le, h _ _ o.at'⟩, fun a c e => by
    rw [AH.del_ne (fun q => by rw [q, o.no] at e; cases e)]; exact h _ _ (o.le _ _ e)⟩
theorem AH.apart {H : AH} {a f : Addr} {c : Cell} (h : H a = none) (h' : H f = some c) : a ≠ f := fun e => by rw [e, h'] at h; cases h

theorem la_graft : ∀ (n : Nat) (l : List Int) (s : Nat) (y : Int), l.length = n → s < n → ∃ z, la (((l.set s y).drop (2 * (s / 2))).take 2) = [z] ∧ la (l.set s y) = (la l).set (s / 2) z
  | 0, l, s, y, h, hs => by (first | lia | omega)
  | 1, [x], s, y, h, hs => by
    have : s = 0 := by (first | lia | omega)
    subst this
    exact ⟨y, rfl, rfl⟩
  | n + 2, [], s, y, h, hs => by simp at h
  | n + 2, [x], s, y, h, hs => by simp at h
  | n + 2, x :: x2 :: r, 0, y, h, hs => ⟨y * x2, rfl, rfl⟩
  | n + 2, x :: x2 :: r, 1, y, h, hs => ⟨x * y, rfl, rfl⟩
  | n + 2, x :: x2 :: r, i + 2, y, h, hs => by
    obtain ⟨z, h1, h2⟩ := la_graft n r i y (by simpa using h) (by (first | lia | omega))
    refine ⟨z, ?_, ?_⟩
    · rw [show 2 * ((i + 2) / 2) = 2 * (i / 2) + 2 by (first | lia | omega)]; exact h1
    · rw [show (i + 2) / 2 = i / 2 + 1 by (first | lia | omega)]
      show x * x2 :: la (r.set i y) = x * x2 :: (la r).set (i / 2) z
      rw [h2]
theorem set_split {α : Type} (l : List α) (i : Nat) (z : α) (h : i < l.length) : l.take i ++ [z] ++ l.drop (i + 1) = l.set i z := by
  rw [List.set_eq_take_append_cons_drop, if_pos h, List.append_assoc]; rfl


theorem grafted_spec {C : Cx} {A : Around} {H : AH} {F : Nat → Addr} {b lf : Addr} {vs : List Int} {t : List (List Int)} {s w : Nat} {x : Int} {Q : AV → AH → Prop} (X : FsOk C F) (hA : Room 4 A) (hw : 1 ≤ w) (hw2 : w ≤ 16) (hb : LT H (.ref b) (t.map (rows w))) (hx : LI H (.ref lf) (limb (2 ^ w) x))
    (ht : Tree vs t) (hl : vs.length ≤ 1000) (hs : s < vs.length) (hv : Good (vs.set s x)) (q : ∀ H' r t', AH.le H H' → LT H' (.ref r) (t'.map (rows w)) → Tree (vs.set s x) t' → Q (.ref r) H') : CJ C A (.ref (F 28)) H [.ref b, .int s, .ref lf, .int w] Q := by
  have hlm : C.mg "level_above" = _ := X.n (i := 11) (by decide) (by rfl)
  have hlk := X.k (i := 11) (by decide)
  have hmm : C.mg "mul_school" = _ := X.n (i := 17) (by decide) (by rfl)
  have hmk := X.k (i := 17) (by decide)
  have hB := two_le_pow hw
  obtain ⟨b', ts, e, hbb, ft⟩ := hb
  cases e
  have htl : ts.length = t.length := by rw [ft.length]; simp
  have hn := ht.ne
  have hlen2 := ht.len
  refine CJ.def_ (k := 3) ["levels", "spot", "leaf", "w"] (X.f 28 (by decide)) hA (by with_unfolding_all rfl) ?_ (by decide) (by rfl) (by rfl) (by rfl) ?_
  · intro doc pm cdv ct an vals hl
    obtain ⟨_, _, _, _, rfl⟩ := len4 hl
    rfl
  · intro A' L cd r eo
    have hh := r.handled
    wtm_at "vs"
    refine ft.ll (i := 0) (y := rows w vs) (by simp [ht.head]) fun l0a l0s hl0 hl0s fl0 => ?_
    have hl0l : l0s.length = vs.length := by rw [fl0.length]; simp
    wtm_at "s1"
    repeat wtm_at "e1"
    refine ⟨_, _, _, _, rfl, rfl, hbb, .inl ⟨by decide, by decide, hl0⟩, ?_⟩
    repeat wtm_at "e1"
    refine ⟨l0a, l0s, rfl, .inl hl0s, by wtm_at "sz", fun c1 H₁ hc1 hle₁ hcc1 => ?_⟩
    rw [sl_upto] at hcc1
    repeat wtm_at "e1"
    refine ⟨by wtm_at "sz", fun c2 H₂ hc2 hle₂ hcc2 => ?_⟩
    refine BO.addN (hle₂ _ _ hcc1) hcc2 (by wtm_at "sz") fun d1 H₃ hd1 hle₃ hdd1 => ?_
    have hle₀₃ := hle₁.trans (hle₂.trans hle₃)
    repeat wtm_at "e1"
    refine ⟨_, _, _, _, rfl, rfl, hle₀₃ _ _ hbb, .inl ⟨by decide, by decide, hl0⟩, ?_⟩
    repeat wtm_at "e1"
    refine ⟨l0a, l0s, rfl, .inl (hle₀₃ _ _ hl0s), by wtm_at "sz", fun c3 H₄ hc3 hle₄ hcc3 => ?_⟩
    rw [show ((s : Int) + 1) = ((s + 1 : Nat) : Int) by (first | lia | omega), sl_from] at hcc3
    refine BO.addN (hle₄ _ _ hdd1) hcc3 (by wtm_at "sz") fun d2 H₅ hd2 hle₅ hdd2 => ?_
    have hle₀₅ := hle₀₃.trans (hle₄.trans hle₅)
    repeat wtm_at "e1"
    refine ⟨by wtm_at "sz", fun f H₆ hf hle₆ hff => ?_⟩
    have fd2 : F2 (LI H₅) (l0s.take s ++ [.ref lf] ++ l0s.drop (s + 1)) (rows w (vs.set s x)) := by
      rw [← set_split vs s x hs, rows, List.map_append, List.map_append, List.map_take, List.map_drop]
      refine F2.append (F2.append ?_ (.cons (hx.up hle₀₅) .nil)) ?_
      · exact (fl0.take _).mono fun _ _ => LI.up hle₀₅
      · exact (fl0.drop _).mono fun _ _ => LI.up hle₀₅
    wtm_at "s1"
    wtm_at "i1"
    repeat wtm_at "e1"
    have hle₀₆ := hle₀₅.trans hle₆
    refine ⟨b, ts, rfl, .inl (hle₀₆ _ _ hbb), by wtm_at "sz", fun c H₇ hc hle₇ hcc => ?_⟩
    rw [show ((1 : Int)) = ((1 : Nat) : Int) by rfl, sl_from] at hcc
    refine ⟨_, _, rfl, hcc, ?_⟩
    have hle₆₇ := hle₆.trans hle₇
    have hfN : H f = none := AH.none_of hle₀₅ hf
    obtain ⟨ow0, le0⟩ := (Own.new hf hle₆ hff).full hle₇
    have hcf : c ≠ f := AH.apart hc hff
    have hcc0 : (H₇.del f) c = _ := (AH.del_ne hcf).trans hcc
    refine ⟨t.length - 1, fun k V' H' => ∃ us H₀ pre lv sp y, V' "spot" = some (.int (sp : Nat)) ∧ V' "w" = some (.int w) ∧ V' "found" = some (.ref f) ∧ Own f H₀ H' us ∧ AH.le (H₇.del f) H₀ ∧ F2 (LL H₀) us ((pre ++ [lv.set sp y]).map (rows w)) ∧ t[k]? = some lv ∧ sp < lv.length ∧ Good (lv.set sp y) ∧
      lv.length ≤ 1000 ∧ (∀ t', Tree (lv.set sp y) t' → Tree (vs.set s x) (pre ++ t')) ∧ pre.length = k,
      ⟨[.ref d2], _, [], vs, s, x, by wtm_at "lk", by wtm_at "lk", by wtm_at "lk", ow0, AH.le_refl, .cons ⟨d2, _, rfl, le0 _ _ hdd2, fd2.mono fun _ _ => LI.up le0⟩ .nil, ht.head, hs, hv, hl, fun t' h => h, rfl⟩, ?_, ?_⟩
    · intro k V' H' hk hJ
      refine xe6 hJ fun us H₀ pre lv sp y hI => el12 hI fun vsp vw vf ow hle fu hlv hsp hg hll htree hpl => ?_
      clear hI hJ
      have hul : us.length = pre.length + 1 := by rw [fu.length]; simp
      obtain ⟨l2, hl2⟩ : ∃ l2, t[k + 1]? = some l2 := ⟨_, List.getElem?_eq_getElem (by (first | lia | omega))⟩
      obtain ⟨rfl, h1l⟩ := ht.step hlv hl2
      have hlal := la_length _ lv rfl
      have le₀ : AH.le H₅ H₀ := le0.trans hle
      have le₀₀ : AH.le H H₀ := hle₀₅.trans le₀
      refine ft.ll (i := k + 1) (y := rows w (la lv)) (by simp [hl2]) fun lra ls hlr hls fl => ?_
      have hlsl : ls.length = (la lv).length := by rw [fl.length]; simp
      obtain ⟨z, hz1, hz2⟩ := la_graft _ lv sp y rfl hsp
      refine fu.ll (i := pre.length) (y := rows w (lv.set sp y)) (by simp) fun pa ps hpv hps fp => ?_
      have hpsl : ps.length = lv.length := by rw [fp.length]; simp
      have hidx : us[((-1 : Int) + us.length).toNat]? = some (.ref pa) := by rw [show ((-1 : Int) + us.length).toNat = pre.length by (first | lia | omega)]; exact hpv
      refine ⟨.one (.ref lra), _, itl (ow.le _ _ (hle _ _ hcc0)) (by rw [List.getElem?_drop, Nat.add_comm]; exact hlr), TgtOk.one rfl StX.fr, ?_⟩
      wtm_at "s1"
      repeat wtm_at "e1"
      refine BO.div (by decide) (by decide) ?_
      rw [show (sp : Int).fdiv 2 = ((sp / 2 : Nat) : Int) by rw [Int.fdiv_eq_ediv_of_nonneg _ (by decide)]; (first | lia | omega)]
      obtain ⟨s2, hs2⟩ : ∃ s2, s2 = sp / 2 := ⟨_, rfl⟩
      rw [← hs2] at hz1 hz2 ⊢
      wtm_at "s1"
      repeat wtm_at "e1"
      refine ⟨_, _, _, _, rfl, rfl, ow.at', .inr ⟨by decide, by (first | lia | omega), by decide, hidx⟩, ?_⟩
      repeat wtm_at "e1"
      refine BO.mul (.of_left (by decide)) ?_
      repeat wtm_at "e1"
      refine BO.mul (.of_left (by decide)) ?_
      repeat wtm_at "e1"
      refine ⟨pa, ps, rfl, .inl (ow.le _ _ hps), by wtm_at "sz", fun e1 G₁ he1 gle₁ hee1 => ?_⟩
      rw [show ((2 : Int) * (s2 : Int)) = ((2 * s2 : Nat) : Int) by (first | lia | omega), show (((2 * s2 : Nat) : Int) + 2) = ((2 * s2 + 2 : Nat) : Int) by (first | lia | omega), sl_run, show 2 * s2 + 2 - 2 * s2 = 2 by (first | lia | omega)] at hee1
      have he1f : e1 ≠ f := AH.apart he1 ow.at'
      obtain ⟨ow₁, leG₁⟩ := ow.full gle₁
      repeat wtm_at "e1"
      refine EJ.glob hmm ?_ (by rfl) (by decide)
      repeat wtm_at "e1"
      refine ow₁.call (level_above_spec (vs := ((lv.set sp y).drop (2 * s2)).take 2) X r hw hw2 ⟨e1, _, rfl, (AH.del_ne he1f).trans hee1, ?_⟩ (by simp; (first | lia | omega)) (fun v hv => ?_) fun G₂ p gle₂ hpn hp G₃ ow₃ => ?_)
      · rw [List.map_take, List.map_drop]
        exact ((fp.drop _).take _).mono fun _ _ => LI.up leG₁
      · have := hg.len hw v (List.mem_of_mem_drop (List.mem_of_mem_take hv))
        exact ⟨this.1, by (first | lia | omega)⟩
      rw [hz1] at hp
      obtain ⟨p', pr, e, hpr, fpr⟩ := hp
      cases e
      have hprl : pr.length = 1 := by rw [fpr.length]; simp
      wtm_at "s1"
      repeat wtm_at "e1"
      refine ⟨_, _, rfl, ow₃.at', ?_⟩
      repeat wtm_at "e1"
      have leG₂ : AH.le H₀ G₂ := leG₁.trans gle₂
      have hls₃ := ow₃.le _ _ (leG₂ _ _ (le₀₀ _ _ hls))
      refine ⟨lra, ls, rfl, .inl hls₃, by wtm_at "sz", fun e2 G₄ he2 gle₄ hee2 => ?_⟩
      rw [sl_upto] at hee2
      repeat wtm_at "e1"
      refine BO.addN hee2 (gle₄ _ _ (ow₃.le _ _ hpr)) (by wtm_at "sz") fun e3 G₅ he3 gle₅ hee3 => ?_
      repeat wtm_at "e1"
      refine ⟨lra, ls, rfl, .inl (gle₅ _ _ (gle₄ _ _ hls₃)), by wtm_at "sz", fun e4 G₆ he4 gle₆ hee4 => ?_⟩
      rw [show ((s2 : Int) + 1) = ((s2 + 1 : Nat) : Int) by (first | lia | omega), sl_from] at hee4
      refine BO.addN (gle₆ _ _ hee3) hee4 (by wtm_at "sz") fun e5 G₇ he5 gle₇ hee5 => ?_
      have gle₃₆ := gle₄.trans (gle₅.trans gle₆)
      obtain ⟨ow₇, leG₇⟩ := ow₃.full (gle₃₆.trans gle₇)
      have he5f : e5 ≠ f := AH.apart he5 (gle₃₆ _ _ ow₃.at')
      refine ⟨_, ow₇.at', by wtm_at "sz", ?_⟩
      wtm_at "s1"
      have hset : (la lv).take s2 ++ [z] ++ (la lv).drop (s2 + 1) = la (lv.set sp y) := by rw [set_split _ _ _ (by (first | lia | omega)), hz2]
      refine ⟨us ++ [.ref e5], _, pre ++ [lv.set sp y], la lv, s2, z, by wtm_at "lk", by wtm_at "lk", by wtm_at "lk", ow₇.write, hle.trans (leG₂.trans leG₇), ?_, hl2, by (first | lia | omega), by rw [← hz2]; exact hg.la, by (first | lia | omega), fun t' ht' => ?_, by simp; (first | lia | omega)⟩
      · rw [List.map_append]
        refine (fu.mono fun _ _ => LL.up (leG₂.trans leG₇)).snoc ⟨e5, _, rfl, (AH.del_ne he5f).trans hee5, ?_⟩
        rw [← hz2, ← hset]
        simp only [rows, List.map_append, List.map_take, List.map_drop]
        have lex := leG₂.trans leG₇
        refine F2.append (F2.append ?_ ?_) ?_
        · exact (fl.take _).mono fun _ _ => LI.up (le₀₀.trans lex)
        · exact fpr.mono fun _ _ => LI.up leG₇
        · exact (fl.drop _).mono fun _ _ => LI.up (le₀₀.trans lex)
      · rw [List.append_assoc]
        rw [← hz2] at ht'
        exact htree _ (.up (by rw [List.length_set]; exact h1l) ht')
    · intro V' H' hJ
      refine xe6 hJ fun us H₀ pre lv sp y hI => el12 hI fun vsp vw vf ow hle fu hlv hsp hg hll htree hpl => ?_
      clear hI hJ
      have le₀ : AH.le H H₀ := hle₀₅.trans (le0.trans hle)
      refine ⟨itl_end (ow.le _ _ (hle _ _ hcc0)) (by rw [List.length_drop]; (first | lia | omega)), ?_⟩
      wtm_at "s1"
      repeat wtm_at "e1"
      exact q H' f _ (le₀.trans ow.le) ⟨f, us, rfl, ow.at', fu.mono fun _ _ => LL.up ow.le⟩ (htree _ (.leaf (by rw [List.length_set]; exact (ht.last hlv).1)))


theorem itz {H : AH} {a b : Addr} {xs ys : List AV} {k : Nat} {u v : AV} (h : H a = some (.list xs)) (h' : H b = some (.list ys)) (e : xs[k]? = some u) (e' : ys[k]? = some v) : itemAt H (.zip a b) k = some (some (.two u v)) := by simp only [itemAt, h, h', e, e']
theorem itz_end {H : AH} {a b : Addr} {xs ys : List AV} {k : Nat} (h : H a = some (.list xs)) (h' : H b = some (.list ys)) (e : ys.length ≤ k) : itemAt H (.zip a b) k = some none := by
  simp only [itemAt, h, h', List.getElem?_eq_none e]
  cases xs[k]? <;> rfl
theorem prodL_append : ∀ (l r : List Int), prodL (l ++ r) = prodL l * prodL r
  | [], r => by simp [prodL]
  | x :: l, r => by
    show x * prodL (l ++ r) = x * prodL l * prodL r
    rw [prodL_append l r, Int.mul_assoc]
theorem cr_snoc : ∀ (s l : List Int) (x y : Int), s.length = l.length → cr (s ++ [x]) (l ++ [y]) = cr s l * y + x * prodL l
  | [], [], x, y, _ => by simp [cr, prodL]
  | [], b :: l, x, y, h => by simp at h
  | a :: s, [], x, y, h => by simp at h
  | a :: s, b :: l, x, y, h => by
    show a * prodL (l ++ [y]) + b * cr (s ++ [x]) (l ++ [y]) = (a * prodL l + b * cr s l) * y + x * (b * prodL l)
    rw [cr_snoc s l x y (by simpa using h), prodL_append]
    simp only [prodL]; grind
theorem prodL_drop {l : List Int} {k : Nat} {v : Int} (h : l[k]? = some v) : prodL (l.drop k) = v * prodL (l.drop (k + 1)) := by
  obtain ⟨h1, rfl⟩ := List.getElem?_eq_some_iff.mp h
  rw [List.drop_eq_getElem_cons h1]; rfl
theorem la_pair : ∀ (k : Nat) (l : List Int), 2 * k < l.length → (la l)[k]? = some (prodL ((l.drop (2 * k)).take 2))
  | 0, [], h => by simp at h
  | 0, [x], h => by simp [la, prodL]
  | 0, x :: y :: l, h => by simp [la, prodL]
  | k + 1, [], h => by simp at h
  | k + 1, [x], h => by simp at h
  | k + 1, x :: y :: l, h => by
    show (la l)[k]? = some (prodL ((l.drop (2 * k)).take 2))
    exact la_pair k l (by simp at h; (first | lia | omega))
theorem prod_le : ∀ (l : List Int), (∀ v ∈ l, 1 ≤ v ∧ v ≤ 40) → prodL l ≤ 128 ^ l.length
  | [], _ => by simp [prodL]
  | x :: r, h => by
    have h1 := h x (.head _)
    have h2 := prod_le r fun v hv => h v (.tail _ hv)
    have h3 := prod_pos (l := r) fun v hv => (h v (.tail _ hv)).1
    have h4 : x * prodL r ≤ 128 * 128 ^ r.length := Int.mul_le_mul (by (first | lia | omega)) h2 (by (first | lia | omega)) (by decide)
    show x * prodL r ≤ 128 ^ (r.length + 1)
    rw [Int.pow_succ]; (first | lia | omega)
theorem cr_le : ∀ (s l : List Int), (∀ v ∈ s, 0 ≤ v ∧ v ≤ 1000) → (∀ v ∈ l, 1 ≤ v ∧ v ≤ 40) → cr s l ≤ 1000 * 128 ^ l.length
  | [], l, _, _ => by
    have := pow_pos' (B := 128) (by decide) l.length
    simp only [cr]; (first | lia | omega)
  | x :: s, [], _, _ => by simp [cr]
  | x :: s, y :: l, hs, hl => by
    have h1 := hs x (.head _)
    have h2 := hl y (.head _)
    have h3 := prod_le l fun v hv => hl v (.tail _ hv)
    have h3' := prod_pos (l := l) fun v hv => (hl v (.tail _ hv)).1
    have h4 := cr_le s l (fun v hv => hs v (.tail _ hv)) fun v hv => hl v (.tail _ hv)
    have h4' := cr_nonneg s l (fun v hv => (hs v (.tail _ hv)).1) fun v hv => (hl v (.tail _ hv)).1
    have hp := pow_pos' (B := 128) (by decide) l.length
    have e1 : x * prodL l ≤ 1000 * 128 ^ l.length := Int.mul_le_mul (by (first | lia | omega)) h3 (by (first | lia | omega)) (by decide)
    have e2 : y * cr s l ≤ 40 * (1000 * 128 ^ l.length) := Int.mul_le_mul (by (first | lia | omega)) h4 (by (first | lia | omega)) (by decide)
    show x * prodL l + y * cr s l ≤ 1000 * 128 ^ (l.length + 1)
    rw [Int.pow_succ]; (first | lia | omega)
noncomputable def sums (a : Int) (k : Nat) : List Int := (List.range k).map fun (j : Nat) => a % ((j : Int) + 3)
theorem sums_succ (a : Int) (k : Nat) : sums a (k + 1) = sums a k ++ [a % ((k : Int) + 3)] := by unfold sums; rw [List.range_succ, List.map_append]; rfl
theorem sums_len (a : Int) (k : Nat) : (sums a k).length = k := by simp [sums]
theorem sums_mem (a : Int) (k : Nat) (hk : k ≤ 5) : ∀ v ∈ sums a k, 0 ≤ v ∧ v ≤ 1000 := fun v hv => by
  obtain ⟨j, hj, rfl⟩ := List.mem_map.mp hv
  have := List.mem_range.mp hj
  have h1 := Int.emod_nonneg a (show (j : Int) + 3 ≠ 0 by (first | lia | omega))
  have h2 := Int.emod_lt_of_pos a (show 0 < (j : Int) + 3 by (first | lia | omega))
  (first | lia | omega)
theorem LI.of {H : AH} {a : Addr} {ns : List Int} (h : H a = some (.list (ns.map .int))) : LI H (.ref a) ns := LI.iff.mpr ⟨a, rfl, h⟩
/-- the leaves as the law has them -/
structure Leaves (vs : List Int) : Prop where
  ne : vs ≠ []
  len : vs.length ≤ 5
  rng : ∀ v ∈ vs, 1 ≤ v ∧ v ≤ 40
theorem Leaves.prod {vs : List Int} (h : Leaves vs) : prodL vs ≤ 34359738368 := by
  have h1 := prod_le vs h.rng
  have h2 := pow_le_pow' (B := 128) (by decide) h.len
  have : (128 : Int) ^ 5 = 34359738368 := by decide
  (first | lia | omega)
theorem Leaves.good {vs : List Int} (h : Leaves vs) : Good vs := ⟨fun v hv => (h.rng v hv).1, by
  have := h.prod
  have e : (34359738368 : Int) < 2 ^ 200 := by decide
  (first | lia | omega)⟩


theorem tree_right_spec {C : Cx} {A : Around} {H : AH} {F : Nat → Addr} {b lv : Addr} {vs : List Int} {t : List (List Int)} {a : Int} {w : Nat} {Q : AV → AH → Prop} (X : FsOk C F) (hA : Room 6 A) (hw : 1 ≤ w) (hw2 : w ≤ 16) (hb : LT H (.ref b) (t.map (rows w))) (hlv : H lv = some (.list (vs.map .int)))
    (ht : Tree vs t) (hL : Leaves vs) (ha : 0 ≤ a) (ha2 : a < 2 ^ 400) (q : ∀ H', AH.le H H' → Q (.bool true) H') : CJ C A (.ref (F 30)) H [.ref b, .ref lv, .int a, .int w] Q := by
  have hlen := X.b "len" (by decide)
  have hzip := X.b "zip" (by decide)
  have hrange := X.b "range" (by decide)
  have hsum := X.b "sum" (by decide)
  have hptm : C.mg "product_tree" = _ := X.n (i := 12) (by decide) (by rfl)
  have hptk := X.k (i := 12) (by decide)
  have hllm : C.mg "_law_limbs" = _ := X.n (i := 26) (by decide) (by rfl)
  have hllk := X.k (i := 26) (by decide)
  have hlnm : C.mg "_law_number" = _ := X.n (i := 27) (by decide) (by rfl)
  have hlnk := X.k (i := 27) (by decide)
  have hlpm : C.mg "_law_product" = _ := X.n (i := 29) (by decide) (by rfl)
  have hlpk := X.k (i := 29) (by decide)
  have hmm : C.mg "mul_school" = _ := X.n (i := 17) (by decide) (by rfl)
  have hdm : C.mg "divrem_school" = _ := X.n (i := 23) (by decide) (by rfl)
  have hrm : C.mg "remainder_tree" = _ := X.n (i := 13) (by decide) (by rfl)
  have hrk := X.k (i := 13) (by decide)
  have hcm : C.mg "crossed" = _ := X.n (i := 15) (by decide) (by rfl)
  have hck := X.k (i := 15) (by decide)
  have hB := two_le_pow hw
  have hG := hL.good
  have hl5 := hL.len
  have hl0 := List.length_pos_iff.mpr hL.ne
  obtain ⟨b', ts, e, hbb, ft⟩ := hb
  cases e
  have htl : ts.length = t.length := by rw [ft.length]; simp
  have hn := ht.ne
  have hlen2 := ht.len
  have hP := hL.prod
  have hP1 := prod_pos hG.pos
  refine CJ.def_ (k := 5) ["levels", "leaves", "a", "w"] (X.f 30 (by decide)) hA (by with_unfolding_all rfl) ?_ (by decide) (by rfl) (by rfl) (by rfl) ?_
  · intro doc pm cdv ct an vals hl
    obtain ⟨_, _, _, _, rfl⟩ := len4 hl
    rfl
  · intro A' L cd r eo
    have hh := r.handled
    have hU : A'.units ≤ 8000 := by have := r.units; (first | lia | omega)
    have hll : ∀ v ∈ vs, 0 ≤ v ∧ (limb (2 ^ w) v).length ≤ 200 := hG.len hw
    wtm_at "vs"
    wtm_at "s1"
    repeat wtm_at "e1"
    -- the tree made afresh
    wtm_at "comp"
    wtm_at "i1"
    repeat wtm_at "e1"
    refine ⟨_, _, rfl, hlv, ?_⟩
    refine ⟨vs.length, fun k ys H' => AH.le H H' ∧ F2 (LI H') ys (rows w (vs.take k)), by wtm_at "sz", ⟨AH.le_refl, .nil⟩, ?_, ?_⟩
    · rintro L' k ys H' hk ⟨hle, fy⟩
      obtain ⟨v, hv'⟩ : ∃ v, vs[k]? = some v := ⟨_, List.getElem?_eq_getElem hk⟩
      have hvb := hll v (List.mem_of_getElem? hv')
      refine ⟨.one (.int v), itl (hle _ _ hlv) (getI hv'), fun Vk hVk => ?_⟩
      have vw' : Vk "w" = some (.int w) := (hVk "w" (by rfl)).trans (by wtm_at "lk")
      wtm_at "t1"
      repeat wtm_at "e1"
      refine law_limbs_spec X (r.less (by decide)) hw hw2 hvb.1 (by (first | lia | omega)) fun H₁ z hle₁ hz => ⟨hle.trans hle₁, ?_⟩
      rw [take_succ_snoc hv', rows, List.map_append]
      exact (fy.mono fun _ _ => LI.up hle₁).snoc hz
    rintro ys H₁ ⟨hle₁, fy⟩
    rw [List.take_length] at fy
    refine ⟨itl_end (hle₁ _ _ hlv) (by simp), fun c hc => ?_⟩
    have hle₂ := AH.le_set (c := .list ys) hc
    have hcc : (H₁.set c (.list ys)) c = some (.list ys) := AH.set_self
    generalize H₁.set c (.list ys) = H₂ at *
    repeat wtm_at "e1"
    refine EJ.glob hmm ?_ (by rfl) (by decide)
    repeat wtm_at "e1"
    refine product_tree_spec X (r.less (by decide)) hw hw2 ⟨c, ys, rfl, hcc, fy.mono fun _ _ => LI.up hle₂⟩ (by (first | lia | omega)) hG fun H₃ p t' hle₃ _ ht' hp => ?_
    obtain rfl := ht.uniq ht'
    have hle₀₃ := hle₁.trans (hle₂.trans hle₃)
    refine BO.ne3 hU ⟨b, ts, rfl, hle₀₃ _ _ hbb, ft.mono fun _ _ => LL.up hle₀₃⟩ hp ?_
    refine ⟨false, rfl, ?_⟩
    rw [if_neg Bool.false_ne_true]
    wtm_at "s1"
    -- the top
    obtain ⟨top, htop⟩ : ∃ x, t[t.length - 1]? = some x := ⟨_, List.getElem?_eq_getElem (by (first | lia | omega))⟩
    have htop' := (ht.last htop).2 hL.ne
    subst htop'
    refine ft.ll (i := t.length - 1) (y := rows w [prodL vs]) (by simp [htop]) fun ta tr htv htr ftr => ?_
    have hidx : ts[((-1 : Int) + ts.length).toNat]? = some (.ref ta) := by rw [show ((-1 : Int) + ts.length).toNat = t.length - 1 by (first | lia | omega)]; exact htv
    refine ftr.li (i := 0) (y := limb (2 ^ w) (prodL vs)) (by rfl) fun tra htr0 htra => ?_
    have htrl : tr.length = 1 := by rw [ftr.length]; rfl
    wtm_at "s1"
    repeat wtm_at "e1"
    refine ⟨_, _, _, _, rfl, rfl, hle₀₃ _ _ hbb, .inr ⟨by decide, by (first | lia | omega), by decide, hidx⟩, ?_⟩
    repeat wtm_at "e1"
    refine ⟨_, _, _, _, rfl, rfl, hle₀₃ _ _ htr, .inl ⟨by decide, by decide, htr0⟩, ?_⟩
    repeat wtm_at "e1"
    have hPl := limb_len hw (m := 200) (show 0 ≤ prodL vs by (first | lia | omega)) hG.lt
    refine law_number_spec X (r.less (by decide)) (hle₀₃ _ _ htra) (by (first | lia | omega)) hw hw2 (limbs_limb hB (by (first | lia | omega))) fun H₄ hle₄ => ?_
    rw [num_limb hB (by (first | lia | omega))]
    repeat wtm_at "e1"
    have hle₀₄ := hle₀₃.trans hle₄
    refine law_product_spec X (r.less (by decide)) (hle₀₄ _ _ hlv) (fun x hx => ?_) ?_
    · have := hL.rng x hx
      have e : (40 : Int) < 2 ^ 60 := by decide
      (first | lia | omega)
    repeat wtm_at "e1"
    rw [show (prodL vs != prodL vs) = false by simp, if_neg Bool.false_ne_true]
    repeat wtm_at "e1"
    refine ⟨_, _, _, _, rfl, rfl, hle₀₄ _ _ hbb, .inr ⟨by decide, by (first | lia | omega), by decide, hidx⟩, ?_⟩
    repeat wtm_at "e1"
    refine CJ.len (hle₀₄ _ _ htr) (by (first | lia | omega)) ?_
    repeat wtm_at "e1"
    rw [htrl, show (((1 : Nat) : Int) != 1) = false by rfl, if_neg Bool.false_ne_true]
    wtm_at "s1"
    -- the levels
    wtm_at "s1"
    wtm_at "i1"
    repeat wtm_at "e1"
    refine ⟨b, ts, rfl, .inl (hle₀₄ _ _ hbb), by wtm_at "sz", fun c2 H₅ hc2 hle₅ hcc2 => ?_⟩
    rw [show ((1 : Int)) = ((1 : Nat) : Int) by rfl, sl_from] at hcc2
    have hle₀₅ := hle₀₄.trans hle₅
    repeat wtm_at "e1"
    refine ⟨_, _, _, _, rfl, hle₀₅ _ _ hbb, hcc2, ?_⟩
    refine ⟨t.length - 1, fun k V' H' => V' "levels" = some (.ref b) ∧ V' "leaves" = some (.ref lv) ∧ V' "a" = some (.int a) ∧ V' "w" = some (.int w) ∧ AH.le H₅ H', ⟨by wtm_at "lk", by wtm_at "lk", by wtm_at "lk", by wtm_at "lk", AH.le_refl⟩, ?_, ?_⟩
    · intro k V' H' hk hI
      refine el5 hI fun vl vv va vw hle => ?_
      clear hI
      have hH' := hle₀₅.trans hle
      obtain ⟨bl, hbl⟩ : ∃ x, t[k]? = some x := ⟨_, List.getElem?_eq_getElem (by (first | lia | omega))⟩
      obtain ⟨ab, hab⟩ : ∃ x, t[k + 1]? = some x := ⟨_, List.getElem?_eq_getElem (by (first | lia | omega))⟩
      obtain ⟨rfl, h1l⟩ := ht.step hbl hab
      obtain ⟨hgb, hbll, hbn, hbp⟩ := ht.good hG hL.ne bl (List.mem_of_getElem? hbl)
      have hlal := la_length _ bl rfl
      refine ft.ll (i := k) (y := rows w bl) (by simp [hbl]) fun bra bs hbr hbs fb => ?_
      refine ft.ll (i := k + 1) (y := rows w (la bl)) (by simp [hab]) fun ara as har has fa => ?_
      have hbsl : bs.length = bl.length := by rw [fb.length]; simp
      have hasl : as.length = (la bl).length := by rw [fa.length]; simp
      refine ⟨.two (.ref bra) (.ref ara), _, itz (hH' _ _ hbb) (hle _ _ hcc2) hbr (by rw [List.getElem?_drop, Nat.add_comm]; exact har), TgtOk.pair rfl rfl StX.fr StX.fr, ?_⟩
      wtm_at "s1"
      wtm_at "comp"
      wtm_at "i1"
      repeat wtm_at "e1"
      refine ⟨_, _, rfl, hH' _ _ hbs, ?_⟩
      refine ⟨bl.length, fun k ys H'' => ys = (bl.take k).map AV.int ∧ AH.le H' H'', by wtm_at "sz", ⟨by simp, AH.le_refl⟩, ?_, ?_⟩
      · rintro L' j ys H'' hj ⟨rfl, hle'⟩
        obtain ⟨v, hv'⟩ : ∃ v, bl[j]? = some v := ⟨_, List.getElem?_eq_getElem hj⟩
        refine fb.li (i := j) (y := limb (2 ^ w) v) (by simp [hv']) fun va' hvr hva => ?_
        have hvb := hgb.len hw v (List.mem_of_getElem? hv')
        refine ⟨.one (.ref va'), itl (hle' _ _ (hH' _ _ hbs)) hvr, fun Vk hVk => ?_⟩
        have vw' : Vk "w" = some (.int w) := (hVk "w" (by rfl)).trans (by wtm_at "lk")
        wtm_at "t1"
        repeat wtm_at "e1"
        refine law_number_spec X (r.less (by decide)) (hle' _ _ (hH' _ _ hva)) (by (first | lia | omega)) hw hw2 (limbs_limb hB hvb.1) fun H₆ hle₆ => ?_
        rw [num_limb hB hvb.1]
        exact ⟨by rw [take_succ_snoc hv', List.map_append]; rfl, hle'.trans hle₆⟩
      rintro ys H'' ⟨rfl, hle'⟩
      refine ⟨itl_end (hle' _ _ (hH' _ _ hbs)) (by (first | lia | omega)), fun d hd => ?_⟩
      rw [List.take_length]
      have hle₆ := hle'.trans (AH.le_set (c := .list (bl.map .int)) hd)
      have hdd : (H''.set d (.list (bl.map .int))) d = some (.list (bl.map .int)) := AH.set_self
      generalize H''.set d (.list (bl.map .int)) = H₆ at *
      wtm_at "s1"
      wtm_at "comp"
      wtm_at "i1"
      repeat wtm_at "e1"
      refine CJ.len hdd (by wtm_at "ln") ?_
      repeat wtm_at "e1"
      refine ⟨_, _, _, .inr (.inr rfl), by decide, by simp; (first | lia | omega), by decide, by decide, ?_⟩
      rw [List.length_map, rangeSize_twoU]
      refine ⟨(bl.length + 1) / 2, fun k ys H'' => ys = ((la bl).take k).map AV.int ∧ AH.le H₆ H'', by wtm_at "sz", ⟨by simp, AH.le_refl⟩, ?_, ?_⟩
      · rintro L' j ys H'' hj ⟨rfl, hle'⟩
        refine ⟨_, by simp only [itemAt]; rw [if_pos hj], fun Vk hVk => ?_⟩
        rw [show ((0 : Int) + (j : Int) * 2) = ((2 * j : Nat) : Int) by (first | lia | omega)]
        have vd' : Vk "due" = some (.ref d) := (hVk "due" (by rfl)).trans (by wtm_at "lk")
        wtm_at "t1"
        repeat wtm_at "e1"
        refine ⟨d, _, rfl, .inl (hle' _ _ hdd), by wtm_at "sz", fun e H₇ he hle₇ hee => ?_⟩
        rw [show (((2 * j : Nat) : Int) + 2) = ((2 * j + 2 : Nat) : Int) by (first | lia | omega), sl_run, show 2 * j + 2 - 2 * j = 2 by (first | lia | omega), ← List.map_drop, ← List.map_take] at hee
        repeat wtm_at "e1"
        refine law_product_spec X (r.less (by decide)) hee (fun x hx => ?_) ?_
        · have hm := List.mem_of_mem_drop (List.mem_of_mem_take hx)
          have h1 := hgb.pos x hm
          have h2 := le_prod hgb.pos x hm
          have e : (34359738368 : Int) < 2 ^ 60 := by decide
          (first | lia | omega)
        · exact ⟨by rw [take_succ_snoc (la_pair j bl (by (first | lia | omega))), List.map_append]; rfl, hle'.trans hle₇⟩
      rintro ys H'' ⟨rfl, hle'⟩
      refine ⟨by simp [itemAt], fun e he => ?_⟩
      rw [← hlal, List.take_length]
      have hle₇ := hle'.trans (AH.le_set (c := .list ((la bl).map .int)) he)
      have hee : (H''.set e (.list ((la bl).map .int))) e = some (.list ((la bl).map .int)) := AH.set_self
      generalize H''.set e (.list ((la bl).map .int)) = H₇ at *
      have hH₇ := hH'.trans (hle₆.trans hle₇)
      wtm_at "s1"
      repeat wtm_at "e1"
      wtm_at "comp"
      wtm_at "i1"
      repeat wtm_at "e1"
      refine ⟨_, _, rfl, hH₇ _ _ has, ?_⟩
      refine ⟨(la bl).length, fun k ys H'' => ys = ((la bl).take k).map AV.int ∧ AH.le H₇ H'', by wtm_at "sz", ⟨by simp, AH.le_refl⟩, ?_, ?_⟩
      · rintro L' j ys H'' hj ⟨rfl, hle'⟩
        obtain ⟨v, hv'⟩ : ∃ v, (la bl)[j]? = some v := ⟨_, List.getElem?_eq_getElem hj⟩
        refine fa.li (i := j) (y := limb (2 ^ w) v) (by simp [hv']) fun va' hvr hva => ?_
        have hvb := hgb.la.len hw v (List.mem_of_getElem? hv')
        refine ⟨.one (.ref va'), itl (hle' _ _ (hH₇ _ _ has)) hvr, fun Vk hVk => ?_⟩
        have vw' : Vk "w" = some (.int w) := (hVk "w" (by rfl)).trans (by wtm_at "lk")
        wtm_at "t1"
        repeat wtm_at "e1"
        refine law_number_spec X (r.less (by decide)) (hle' _ _ (hH₇ _ _ hva)) (by (first | lia | omega)) hw hw2 (limbs_limb hB hvb.1) fun H₈ hle₈ => ?_
        rw [num_limb hB hvb.1]
        exact ⟨by rw [take_succ_snoc hv', List.map_append]; rfl, hle'.trans hle₈⟩
      rintro ys H'' ⟨rfl, hle'⟩
      refine ⟨itl_end (hle' _ _ (hH₇ _ _ has)) (by (first | lia | omega)), fun g hg => ?_⟩
      rw [List.take_length]
      have hle₈ := AH.le_set (c := .list ((la bl).map .int)) hg
      repeat wtm_at "e1"
      refine BO.ne1 hU (LI.of AH.set_self) (LI.of (hle₈ _ _ (hle' _ _ hee))) ?_
      refine ⟨false, rfl, ?_⟩
      rw [if_neg Bool.false_ne_true]
      wtm_at "s1"
      wtm_at "s1"
      exact ⟨by wtm_at "lk", by wtm_at "lk", by wtm_at "lk", by wtm_at "lk", hle.trans (hle₆.trans (hle₇.trans (hle'.trans hle₈)))⟩
    · intro V' H' hI
      refine el5 hI fun vl vv va vw hle => ?_
      clear hI
      have hH' := hle₀₅.trans hle
      refine ⟨itz_end (hH' _ _ hbb) (hle _ _ hcc2) (by rw [List.length_drop]; (first | lia | omega)), ?_⟩
      -- the rests
      wtm_at "s1"
      repeat wtm_at "e1"
      refine law_limbs_spec X (r.less (by decide)) hw hw2 ha (by have := limb_len hw ha ha2; (first | lia | omega)) fun H₆ z hle₆ hz => ?_
      have hH₆ := hH'.trans hle₆
      repeat wtm_at "e1"
      refine EJ.glob hdm ?_ (by rfl) (by decide)
      repeat wtm_at "e1"
      refine remainder_tree_spec X (r.less (by decide)) hw hw2 hz ⟨b, ts, rfl, hH₆ _ _ hbb, ft.mono fun _ _ => LL.up hH₆⟩ ha ha2 ht hG hL.ne (by (first | lia | omega)) fun H₇ rr hle₇ hrr => ?_
      obtain ⟨rr', rs, e, hrs, fr⟩ := hrr
      cases e
      have hrsl : rs.length = vs.length := by rw [fr.length]; simp
      have hH₇ := hH₆.trans hle₇
      wtm_at "s1"
      repeat wtm_at "e1"
      wtm_at "comp"
      wtm_at "i1"
      repeat wtm_at "e1"
      refine ⟨_, _, rfl, hrs, ?_⟩
      refine ⟨vs.length, fun k ys H'' => ys = ((vs.map (a % ·)).take k).map AV.int ∧ AH.le H₇ H'', by wtm_at "sz", ⟨by simp, AH.le_refl⟩, ?_, ?_⟩
      · rintro L' j ys H'' hj ⟨rfl, hle'⟩
        obtain ⟨v, hv'⟩ : ∃ v, vs[j]? = some v := ⟨_, List.getElem?_eq_getElem hj⟩
        have hav : (vs.map (a % ·))[j]? = some (a % v) := by simp [hv']
        refine fr.li (i := j) (y := limb (2 ^ w) (a % v)) (by simp [hv']) fun va' hvr hva => ?_
        have hv1 := hL.rng v (List.mem_of_getElem? hv')
        have hm0 := Int.emod_nonneg a (show v ≠ 0 by (first | lia | omega))
        have hm1 := Int.emod_lt_of_pos a (show 0 < v by (first | lia | omega))
        have hml := limb_len hw (m := 10) hm0 (by have e : (2 : Int) ^ 10 = 1024 := by decide
                                                  (first | lia | omega))
        refine ⟨.one (.ref va'), itl (hle' _ _ hrs) hvr, fun Vk hVk => ?_⟩
        have vw' : Vk "w" = some (.int w) := (hVk "w" (by rfl)).trans (by wtm_at "lk")
        wtm_at "t1"
        repeat wtm_at "e1"
        refine law_number_spec X (r.less (by decide)) (hle' _ _ hva) (by (first | lia | omega)) hw hw2 (limbs_limb hB hm0) fun H₈ hle₈ => ?_
        rw [num_limb hB hm0]
        exact ⟨by rw [take_succ_snoc hav, List.map_append]; rfl, hle'.trans hle₈⟩
      rintro ys H₈ ⟨rfl, hle₈⟩
      refine ⟨itl_end (hle₈ _ _ hrs) (by (first | lia | omega)), fun g hg => ?_⟩
      rw [show vs.length = (vs.map (a % ·)).length by simp, List.take_length]
      have hle₉ := AH.le_set (c := .list ((vs.map (a % ·)).map .int)) hg
      have hgg : (H₈.set g (.list ((vs.map (a % ·)).map .int))) g = some (.list ((vs.map (a % ·)).map .int)) := AH.set_self
      generalize H₈.set g (.list ((vs.map (a % ·)).map .int)) = H₉ at *
      have hH₉ := hH₇.trans (hle₈.trans hle₉)
      wtm_at "comp"
      wtm_at "i1"
      repeat wtm_at "e1"
      refine ⟨_, _, rfl, hH₉ _ _ hlv, ?_⟩
      refine ⟨vs.length, fun k ys H'' => ys = ((vs.map (a % ·)).take k).map AV.int ∧ H'' = H₉, by wtm_at "sz", ⟨by simp, rfl⟩, ?_, ?_⟩
      · rintro L' j ys H'' hj ⟨rfl, rfl⟩
        obtain ⟨v, hv'⟩ : ∃ v, vs[j]? = some v := ⟨_, List.getElem?_eq_getElem hj⟩
        have hav : (vs.map (a % ·))[j]? = some (a % v) := by simp [hv']
        have hv1 := hL.rng v (List.mem_of_getElem? hv')
        refine ⟨.one (.int v), itl (hH₉ _ _ hlv) (getI hv'), fun Vk hVk => ?_⟩
        have va' : Vk "a" = some (.int a) := (hVk "a" (by rfl)).trans (by wtm_at "lk")
        wtm_at "t1"
        repeat wtm_at "e1"
        refine BO.mod (by (first | lia | omega)) ?_
        rw [Int.fmod_eq_emod_of_nonneg _ (by (first | lia | omega))]
        exact ⟨by rw [take_succ_snoc hav, List.map_append]; rfl, rfl⟩
      rintro ys H'' ⟨rfl, rfl⟩
      refine ⟨itl_end (hH₉ _ _ hlv) (by simp), fun g2 hg2 => ?_⟩
      rw [show vs.length = (vs.map (a % ·)).length by simp, List.take_length]
      have hle₁₀ := AH.le_set (c := .list ((vs.map (a % ·)).map .int)) hg2
      repeat wtm_at "e1"
      refine BO.ne1 hU (LI.of (hle₁₀ _ _ hgg)) (LI.of AH.set_self) ?_
      refine ⟨false, rfl, ?_⟩
      rw [if_neg Bool.false_ne_true]
      generalize H''.set g2 (.list ((vs.map (a % ·)).map .int)) = H₁₀ at *
      have hH₁₀ := hH₉.trans hle₁₀
      wtm_at "s1"
      -- what they tell crossed
      wtm_at "s1"
      repeat wtm_at "e1"
      wtm_at "comp"
      wtm_at "i1"
      repeat wtm_at "e1"
      refine CJ.len (hH₁₀ _ _ hlv) (by wtm_at "ln") ?_
      repeat wtm_at "e1"
      refine ⟨_, _, _, .inl ⟨rfl, rfl, rfl⟩, by decide, by simp; (first | lia | omega), by decide, by decide, ?_⟩
      rw [List.length_map, rangeSize_up, show ((vs.length : Int) - 0).toNat = vs.length by (first | lia | omega)]
      refine ⟨vs.length, fun k ys H'' => AH.le H₁₀ H'' ∧ F2 (NI w H'') ys (sums a k), by wtm_at "sz", ⟨AH.le_refl, .nil⟩, ?_, ?_⟩
      · rintro L' j ys H'' hj ⟨hle', fy⟩
        refine ⟨_, by simp only [itemAt]; rw [if_pos hj], fun Vk hVk => ?_⟩
        rw [show ((0 : Int) + (j : Int) * 1) = (j : Int) by (first | lia | omega)]
        have va' : Vk "a" = some (.int a) := (hVk "a" (by rfl)).trans (by wtm_at "lk")
        have vw' : Vk "w" = some (.int w) := (hVk "w" (by rfl)).trans (by wtm_at "lk")
        have hm0 := Int.emod_nonneg a (show (j : Int) + 3 ≠ 0 by (first | lia | omega))
        have hm1 := Int.emod_lt_of_pos a (show 0 < (j : Int) + 3 by (first | lia | omega))
        have hml := limb_len hw (m := 10) hm0 (by have e : (2 : Int) ^ 10 = 1024 := by decide
                                                  (first | lia | omega))
        wtm_at "t1"
        repeat wtm_at "e1"
        refine BO.mod (by (first | lia | omega)) ?_
        rw [Int.fmod_eq_emod_of_nonneg _ (by (first | lia | omega))]
        repeat wtm_at "e1"
        refine law_limbs_spec X (r.less (by decide)) hw hw2 hm0 (by (first | lia | omega)) fun H₁₁ z hle₁₁ hz => ⟨hle'.trans hle₁₁, ?_⟩
        rw [sums_succ]
        exact (fy.mono fun _ _ => NI.up hle₁₁).snoc ⟨_, hz, limbs_limb hB hm0, num_limb hB hm0, by (first | lia | omega)⟩
      rintro ys H₁₁ ⟨hle₁₁, fy⟩
      refine ⟨by simp [itemAt], fun g3 hg3 => ?_⟩
      have hle₁₂ := AH.le_set (c := .list ys) hg3
      have hgg3 : (H₁₁.set g3 (.list ys)) g3 = some (.list ys) := AH.set_self
      generalize H₁₁.set g3 (.list ys) = H₁₂ at *
      have hH₁₂ := hH₁₀.trans (hle₁₁.trans hle₁₂)
      have hcrl := cr_le (sums a vs.length) vs (sums_mem a _ hl5) hL.rng
      have hcr0 := cr_nonneg (sums a vs.length) vs (fun v hv => (sums_mem a _ hl5 v hv).1) hG.pos
      have hcr5 := pow_le_pow' (B := 128) (by decide) hl5
      have hcr1 : cr (sums a vs.length) vs < 2 ^ 200 := by
        have e : (128 : Int) ^ 5 = 34359738368 := by decide
        have e2 : (34359738368000 : Int) < 2 ^ 200 := by decide
        (first | lia | omega)
      repeat wtm_at "e1"
      refine EJ.glob hmm ?_ (by rfl) (by decide)
      repeat wtm_at "e1"
      refine crossed_spec X (r.less (by decide)) hw hw2 hgg3 (fy.mono fun _ _ => NI.up hle₁₂) ⟨b, ts, rfl, hH₁₂ _ _ hbb, ft.mono fun _ _ => LL.up hH₁₂⟩ ht hL.ne (by (first | lia | omega)) (sums_len ..) hG hcr1 fun H₁₃ told hle₁₃ htold => ?_
      have hH₁₃ := hH₁₂.trans hle₁₃
      obtain ⟨tl, htl', ltl, ntl, ltll⟩ := htold
      obtain ⟨tda, rfl, htda⟩ := LI.iff.mp htl'
      wtm_at "s1"
      repeat wtm_at "e1"
      wtm_at "comp"
      wtm_at "i1"
      repeat wtm_at "e1"
      refine CJ.len (hH₁₃ _ _ hlv) (by wtm_at "ln") ?_
      repeat wtm_at "e1"
      refine ⟨_, _, _, .inl ⟨rfl, rfl, rfl⟩, by decide, by simp; (first | lia | omega), by decide, by decide, ?_⟩
      rw [List.length_map, rangeSize_up, show ((vs.length : Int) - 0).toNat = vs.length by (first | lia | omega)]
      refine ⟨vs.length, fun k ys H'' => AH.le H₁₃ H'' ∧ ∃ ns, ys = ns.map AV.int ∧ ns.sum = cr (sums a k) (vs.take k) * prodL (vs.drop k), by wtm_at "sz", ⟨AH.le_refl, [], rfl, by simp [sums, cr]⟩, ?_, ?_⟩
      · rintro L' j ys H'' hj ⟨hle', ns, rfl, hns⟩
        obtain ⟨v, hv'⟩ : ∃ v, vs[j]? = some v := ⟨_, List.getElem?_eq_getElem hj⟩
        refine ⟨_, by simp only [itemAt]; rw [if_pos hj], fun Vk hVk => ?_⟩
        rw [show ((0 : Int) + (j : Int) * 1) = (j : Int) by (first | lia | omega)]
        have va' : Vk "a" = some (.int a) := (hVk "a" (by rfl)).trans (by wtm_at "lk")
        have vv' : Vk "leaves" = some (.ref lv) := (hVk "leaves" (by rfl)).trans (by wtm_at "lk")
        have hm0 := Int.emod_nonneg a (show (j : Int) + 3 ≠ 0 by (first | lia | omega))
        have hm1 := Int.emod_lt_of_pos a (show 0 < (j : Int) + 3 by (first | lia | omega))
        wtm_at "t1"
        repeat wtm_at "e1"
        refine BO.mod (by (first | lia | omega)) ?_
        rw [Int.fmod_eq_emod_of_nonneg _ (by (first | lia | omega))]
        repeat wtm_at "e1"
        refine ⟨lv, _, rfl, .inl (hle' _ _ (hH₁₃ _ _ hlv)), by wtm_at "sz", fun c5 G₁ hc5 gle₁ hcc5 => ?_⟩
        rw [sl_upto, ← List.map_take] at hcc5
        repeat wtm_at "e1"
        refine ⟨lv, _, rfl, .inl (gle₁ _ _ (hle' _ _ (hH₁₃ _ _ hlv))), by wtm_at "sz", fun c6 G₂ hc6 gle₂ hcc6 => ?_⟩
        rw [show ((j : Int) + 1) = ((j + 1 : Nat) : Int) by (first | lia | omega), sl_from, ← List.map_drop] at hcc6
        refine BO.addN (gle₂ _ _ hcc5) hcc6 (by wtm_at "sz") fun c7 G₃ hc7 gle₃ hcc7 => ?_
        rw [← List.map_append] at hcc7
        repeat wtm_at "e1"
        refine law_product_spec X (r.less (by decide)) hcc7 (fun x hx => ?_) ?_
        · have hm : x ∈ vs := by
            rcases List.mem_append.mp hx with q | q
            · exact List.mem_of_mem_take q
            · exact List.mem_of_mem_drop q
          have h1 := hL.rng x hm
          have e : (40 : Int) < 2 ^ 60 := by decide
          (first | lia | omega)
        refine BO.mul (.of_left (Nat.le_trans (bits_lt (m := 10) hm0 (by have e : (2 : Int) ^ 10 = 1024 := by decide
                                                                         (first | lia | omega))) (by decide))) ?_
        refine ⟨hle'.trans (gle₁.trans (gle₂.trans gle₃)), ns ++ [_], by rw [List.map_append]; rfl, ?_⟩
        rw [List.sum_append, hns, sums_succ, take_succ_snoc hv', cr_snoc _ _ _ _ (by rw [sums_len, List.length_take]; (first | lia | omega)), prodL_append, prodL_drop hv']
        simp only [List.sum_cons, List.sum_nil]
        grind
      rintro ys H₁₄ ⟨hle₁₄, ns, rfl, hns⟩
      refine ⟨by simp [itemAt], fun g5 hg5 => ?_⟩
      rw [List.take_length, List.drop_length] at hns
      repeat wtm_at "e1"
      refine CJ.sum hh AH.set_self ?_
      have hle₁₅ := AH.le_set (c := .list (ns.map .int)) hg5
      generalize H₁₄.set g5 (.list (ns.map .int)) = H₁₅ at *
      wtm_at "s1"
      repeat wtm_at "e1"
      refine law_number_spec X (r.less (by decide)) (hle₁₅ _ _ (hle₁₄ _ _ htda)) (by (first | lia | omega)) hw hw2 ltl fun H₁₆ hle₁₆ => ?_
      repeat wtm_at "e1"
      rw [show (num (2 ^ w) tl == ns.sum) = true by simp [ntl, hns, prodL]]
      exact q H₁₆ (hH₁₃.trans (hle₁₄.trans (hle₁₅.trans hle₁₆)))


theorem CJ.repr {C : Cx} {A : Around} {H : AH} {Q : AV → AH → Prop} {a : Addr} {ns : List (List (List Int))} (hr : Room 0 A) (h : LT H (.ref a) ns) (hs : (D3 ns).showable = true) (hd : (D3 ns).hasDict = false) (hl : (D3 ns).shown.length ≤ sizeLine)
    (q : Q (.str (D3 ns).shown) H) : CJ C A (.builtin "repr") H [.ref a] Q := fun s vals hv o => by
  obtain ⟨v, rfl, hw⟩ := map_one hv
  obtain rfl := er_ref hw
  obtain ⟨as, r⟩ := reads3 (v := .ref a) o.has h
  refine PySem.repr_of_reads' r hs (fun e => by rw [hd] at e; cases e) hr.guards ?_ (fun b ob e => e) (fun h' u tk k => ⟨H, q, o.has.keep k, Tr.grow k⟩) hl
  have h1 := hr.units
  have h2 := depth3 ns
  unfold cLine
  (first | lia | omega)

theorem showable_map {α : Type} {D : α → PyData} : ∀ {ys : List α}, (∀ y ∈ ys, (D y).showable = true) → PyData.showableAll (ys.map D) = true
  | [], _ => rfl
  | y :: r, h => by
    rw [List.map_cons, PyData.showableAll, h y (.head _), showable_map fun z hz => h z (.tail _ hz)]; rfl
theorem noDict_map {α : Type} {D : α → PyData} (h : ∀ y, (D y).hasDict = false) : ∀ ys : List α, PyData.hasDictAll (ys.map D) = false
  | [] => rfl
  | y :: r => by rw [List.map_cons, PyData.hasDictAll, h y, noDict_map h r]; rfl
theorem short_map {α : Type} {D : α → PyData} {B : Nat} : ∀ {ys : List α}, (∀ y ∈ ys, (D y).leavesShort B = true) → PyData.leavesShortAll B (ys.map D) = true
  | [], _ => rfl
  | y :: r, h => by
    rw [List.map_cons, PyData.leavesShortAll, h y (.head _), short_map fun z hz => h z (.tail _ hz)]; rfl
theorem weight_map {α : Type} {D : α → PyData} {k : Nat} : ∀ {ys : List α}, (∀ y ∈ ys, (D y).weight ≤ k) → PyData.weightAll (ys.map D) ≤ ys.length * (k + 1)
  | [], _ => by simp [PyData.weightAll]
  | y :: r, h => by
    rw [List.map_cons, PyData.weightAll]
    have h1 := h y (.head _)
    have h2 := weight_map (D := D) (ys := r) fun z hz => h z (.tail _ hz)
    rw [List.length_cons, Nat.succ_mul]; (first | lia | omega)
theorem noDict3 (ns : List (List (List Int))) : (D3 ns).hasDict = false := by
  refine noDict_map (fun y => ?_) ns
  refine noDict_map (fun y => ?_) y
  refine noDict_map (fun y => ?_) y
  rfl
noncomputable def Sm (x : Int) : Prop := 0 ≤ x ∧ x < 65536
structure Sm3 (ns : List (List (List Int))) : Prop where
  l3 : ns.length ≤ 5
  l2 : ∀ l ∈ ns, l.length ≤ 5
  l1 : ∀ l ∈ ns, ∀ r ∈ l, r.length ≤ 200
  it : ∀ l ∈ ns, ∀ r ∈ l, ∀ x ∈ r, Sm x
theorem log2_lt {n k : Nat} (h : n < 2 ^ k) (hk : 0 < k) : n.log2 < k := by
  by_cases h0 : n = 0
  · subst h0; simpa using hk
  · exact (Nat.log2_lt h0).mpr h
theorem Sm.log {x : Int} (h : Sm x) : x.natAbs.log2 < 16 := log2_lt (by have := h.1; have := h.2; (first | lia | omega)) (by decide)
theorem Sm3.show {ns : List (List (List Int))} (h : Sm3 ns) : (D3 ns).showable = true := by
  refine showable_map fun l hl => showable_map fun r hr => showable_map fun x hx => ?_
  have := (h.it l hl r hr x hx).log
  show decide (x.natAbs.log2 < 1920) = true
  rw [decide_eq_true_eq]; (first | lia | omega)
theorem Sm3.len {ns : List (List (List Int))} (h : Sm3 ns) : (D3 ns).shown.length ≤ sizeLine := by
  have hs : (D3 ns).leavesShort 13 = true := by
    refine short_map fun l hl => short_map fun r hr => short_map fun x hx => ?_
    have hx := h.it l hl r hr x hx
    show decide ((PyData.shown (.int x)).length ≤ 13) = true
    rw [decide_eq_true_eq]
    exact PyData.shown_int_le2 (by have := hx.1; (first | lia | omega)) (by have := hx.2; (first | lia | omega))
  have h1 := PyData.shown_le 13 (by decide) _ hs
  have hw : (D3 ns).weight ≤ ns.length * ((5 * (200 * (16 + 1) + 1)) + 1) := by
    refine weight_map fun l hl => ?_
    refine Nat.le_trans (weight_map (k := 200 * (16 + 1)) fun r hr => ?_) (Nat.mul_le_mul_right _ (h.l2 l hl))
    refine Nat.le_trans (weight_map (k := 16) fun x hx => ?_) (Nat.mul_le_mul_right _ (h.l1 l hl r hr))
    have hx := (h.it l hl r hr x hx).log
    show (if x == 0 then 0 else x.natAbs.log2 + 1) ≤ 16
    split <;> (first | lia | omega)
  have := h.l3
  have hsz : sizeLine = 16777216 := by decide
  rw [hsz]
  (first | lia | omega)
theorem Leaves.sm {vs : List Int} {t : List (List Int)} {w : Nat} (h : Leaves vs) (ht : Tree vs t) (hw : 1 ≤ w) (hw2 : w ≤ 16) : Sm3 (t.map (rows w)) := by
  have hB := two_le_pow hw
  have h16 := pow_le_pow' (B := 2) (by decide) hw2
  have e16 : (2 : Int) ^ 16 = 65536 := by decide
  have hl := h.len
  have hg := ht.good h.good h.ne
  refine ⟨?_, fun l hl' => ?_, fun l hl' r hr => ?_, fun l hl' r hr x hx => ?_⟩
  · have := ht.len; simp; (first | lia | omega)
  · obtain ⟨v, hv, rfl⟩ := List.mem_map.mp hl'
    have := (hg v hv).2.1; simp; (first | lia | omega)
  · obtain ⟨v, hv, rfl⟩ := List.mem_map.mp hl'
    obtain ⟨u, hu, rfl⟩ := List.mem_map.mp hr
    exact ((hg v hv).1.len hw u hu).2
  · obtain ⟨v, hv, rfl⟩ := List.mem_map.mp hl'
    obtain ⟨u, hu, rfl⟩ := List.mem_map.mp hr
    have := limbs_limb hB ((hg v hv).1.len hw u hu).1 x hx
    exact ⟨this.1, by (first | lia | omega)⟩


theorem Own.alloc {b c : Addr} {H₀ H H' : AH} {us : List AV} {cell : Cell} {G : Prop} (o : Own b H₀ H us) (hc : H c = none) (hle : AH.le H H') (hcc : H' c = some cell) (g : ∀ H₁, Own b H₁ H' us → AH.le H₀ H₁ → H₁ c = some cell → G) : G :=
  (fun x : ∃ H₁, Own b H₁ H' us ∧ AH.le H₀ H₁ ∧ H₁ c = some cell => let ⟨H₁, a, b, c⟩ := x; g H₁ a b c) ⟨H'.del b, (o.full hle).1, (o.full hle).2, (AH.del_ne (AH.apart hc o.at')).trans hcc⟩
theorem shake {C : Cx} {A : Around} {H H₀ : AH} {F : Nat → Addr} {b l : Addr} {ns : List Int} {i : Nat} {m : Int} {Q : AV → AH → Prop} (X : FsOk C F) (hA : Room 1 A) (o : Own b H₀ H [.int i, .ref l]) (hl : H₀ l = some (.list (ns.map .int)))
    (hi : i ≤ 1000) (hn : ns.length ≤ 1000) (hm : 0 < m) (q : ∀ r, 0 ≤ r → r < m → ∀ H', Own b H₀ H' [.int ((i + 1 : Nat) : Int), .ref l] → Q (.int r) H') : CJ C A (.ref (F 25)) H [.ref b, .int m] Q :=
  law_shaken_spec X hA o.at' (o.le _ _ hl) (fun e => by rw [e, o.no] at hl; cases hl) hi hn hm fun r h0 h1 => q r h0 h1 _ o.write
theorem Leaves.set {vs : List Int} (h : Leaves vs) {s : Nat} {x : Int} (hx : 1 ≤ x ∧ x ≤ 40) : Leaves (vs.set s x) := ⟨fun e => h.ne (by have := congrArg List.length e; rw [List.length_set] at this; exact List.length_eq_zero_iff.mp this), by rw [List.length_set]; exact h.len, fun v hv => by
  rcases List.mem_or_eq_of_mem_set hv with q | q
  · exact h.rng v q
  · exact q ▸ hx⟩

local macro_rules | `(tactic| wtm_at "sc") => `(tactic| first
  | ((with_reducible refine' SJ.assignComp ?hh (compOk_of ?eo ?c1 ?c2) ?s ?w ?k ?_); (case w => with_unfolding_all rfl); (case hh => assumption); (case eo => assumption); (case c1 => with_unfolding_all rfl); (case c2 => with_unfolding_all rfl); (case s => wtm_at "rf"); (case k => rfl); unfold CompJ)
  | (wtm_at "s1"; wtm_at "comp"))

theorem law_body {C : Cx} {F : Nat → Addr} {a : Addr} {ss : List Int} (X : FsOk C F) (hs : RdL C (fun _ => none) a (ss.map .int)) (hsl : ss.length ≤ 1000) :
    ∃ name params body scope, defAt 31 = some (name, params, body, scope) ∧ ∀ A L f cd, Room 7 A → EnvOk C (envY name scope L f cd) → SJ C A (envY name scope L f cd) (noV.set "script" (.ref a)) (fun _ => none) body fun fl _ _ => fl = .ret (.bool true) := by
  have hrange := X.b "range" (by decide)
  have habs := X.b "abs" (by decide)
  have hint := X.b "int" (by decide)
  have hrepr := X.b "repr" (by decide)
  have hshm : C.mg "_law_shaken" = _ := X.n (i := 25) (by decide) (by rfl)
  have hshk := X.k (i := 25) (by decide)
  have hptm : C.mg "product_tree" = _ := X.n (i := 12) (by decide) (by rfl)
  have hptk := X.k (i := 12) (by decide)
  have hllm : C.mg "_law_limbs" = _ := X.n (i := 26) (by decide) (by rfl)
  have hllk := X.k (i := 26) (by decide)
  have hlnm : C.mg "_law_number" = _ := X.n (i := 27) (by decide) (by rfl)
  have hlnk := X.k (i := 27) (by decide)
  have hgrm : C.mg "_law_grafted" = _ := X.n (i := 28) (by decide) (by rfl)
  have hgrk := X.k (i := 28) (by decide)
  have htrm : C.mg "_law_tree_right" = _ := X.n (i := 30) (by decide) (by rfl)
  have htrk := X.k (i := 30) (by decide)
  have hmm : C.mg "mul_school" = _ := X.n (i := 17) (by decide) (by rfl)
  refine ⟨_, _, _, _, by with_unfolding_all rfl, ?_⟩
  intro A' L f cd r eo
  have hh := r.handled
  have hU : A'.units ≤ 8000 := by have := r.units; (first | lia | omega)
  -- the bough
  wtm_at "s1"
  repeat wtm_at "e1"
  wtm_at "comp"
  wtm_at "i1"
  repeat wtm_at "e1"
  refine ⟨a, _, rfl, hs, by wtm_at "sz", fun c0 H₁ hc0 hle₁ hcc0 => ?_⟩
  rw [show ((16 : Int)) = ((16 : Nat) : Int) by rfl, sl_upto, ← List.map_take] at hcc0
  refine ⟨_, _, rfl, hcc0, ?_⟩
  refine ⟨(ss.take 16).length, fun k ys H' => H' = H₁ ∧ ∃ ns : List Int, ys = ns.map .int ∧ ns.length = k, by wtm_at "sz", ⟨rfl, [], rfl, rfl⟩, ?_, ?_⟩
  · rintro L' k ys H' hk ⟨rfl, ns, rfl, hns⟩
    obtain ⟨v, hv'⟩ : ∃ v, (ss.take 16)[k]? = some v := ⟨_, List.getElem?_eq_getElem hk⟩
    refine ⟨.one (.int v), itl hcc0 (getI hv'), fun Vk hVk => ?_⟩
    wtm_at "t1"
    repeat wtm_at "e1"
    refine CJ.int ?_
    repeat wtm_at "e1"
    refine CJ.abs ?_
    exact ⟨rfl, ns ++ [_], by rw [List.map_append]; rfl, by simp [hns]⟩
  rintro ys H' ⟨rfl, ns, rfl, hns⟩
  have hnsl : ns.length ≤ 16 := by rw [hns, List.length_take]; (first | lia | omega)
  refine ⟨itl_end hcc0 (by simp), fun l hl => ?_⟩
  have hll : (H'.set l (.list (ns.map .int))) l = some (.list (ns.map .int)) := AH.set_self
  generalize H'.set l (.list (ns.map .int)) = G₀ at *
  repeat wtm_at "e1"
  refine ⟨by wtm_at "sz", fun b G₁ hb gle₁ hbb => ?_⟩
  have ow₁ : Own b G₀ G₁ [.int ((0 : Nat) : Int), .ref l] := .new hb gle₁ hbb
  -- many, w
  wtm_at "s1"
  repeat wtm_at "e1"
  refine shake X (r.less (by decide)) ow₁ hll (by (first | lia | omega)) (by (first | lia | omega)) (by decide) fun r1 hr1 hr1' G₂ ow₂ => ?_
  repeat wtm_at "e1"
  refine shake X (r.less (by decide)) ow₂ hll (by (first | lia | omega)) (by (first | lia | omega)) (by decide) fun r2 hr2 hr2' G₃ ow₃ => ?_
  repeat wtm_at "e1"
  obtain ⟨n, hn⟩ : ∃ n : Nat, 1 + r1 = (n : Int) := ⟨(1 + r1).toNat, by (first | lia | omega)⟩
  obtain ⟨w, hw⟩ : ∃ w : Nat, 4 + r2 = (w : Int) := ⟨(4 + r2).toNat, by (first | lia | omega)⟩
  rw [hn, hw]
  have hn1 : 1 ≤ n ∧ n ≤ 5 := by (first | lia | omega)
  have hw4 : 4 ≤ w ∧ w ≤ 8 := by (first | lia | omega)
  have hw1 : 1 ≤ w := by (first | lia | omega)
  have hw2 : w ≤ 16 := by (first | lia | omega)
  have hB := two_le_pow hw1
  have hB16 : (16 : Int) ≤ 2 ^ w := by
    have := pow_le_pow' (B := 2) (by decide) hw4.1
    have e : (2 : Int) ^ 4 = 16 := by decide
    (first | lia | omega)
  refine ⟨by wtm_at "sz", fun t₀ G₄ ht₀ gle₄ htt₀ => ⟨t₀, _, _, rfl, htt₀, ?_⟩⟩
  obtain ⟨ow₄, le₄⟩ := ow₃.full gle₄
  generalize G₄.del b = K₄ at *
  have hl₄ := le₄ _ _ hll
  -- a
  wtm_at "s1"
  repeat wtm_at "e1"
  wtm_at "comp"
  wtm_at "i1"
  repeat wtm_at "e1"
  refine ⟨_, _, _, .inl ⟨rfl, rfl, rfl⟩, by decide, by decide, by decide, by decide, ?_⟩
  rw [show (Builtin.Range.rangeSize 0 3 1).toNat = 3 by decide]
  refine ⟨3, fun k ys H' => ∃ ds, ys = ds.map AV.int ∧ Own b K₄ H' [.int ((2 + k : Nat) : Int), .ref l] ∧ Limbs (2 ^ w) ds ∧ ds.length = k, by decide, ⟨[], rfl, ow₄, (fun x hx => nomatch hx), rfl⟩, ?_, ?_⟩
  · intro L' k ys H' hk hJ
    refine xe1 hJ fun ds hI => el4 hI fun hy ow lds hdl => ?_
    clear hI hJ
    subst hy
    refine ⟨_, by simp only [itemAt]; rw [if_pos hk], fun Vk hVk => ?_⟩
    have vb' : Vk "bough" = some (.ref b) := (hVk "bough" (by rfl)).trans (by wtm_at "lk")
    have vw' : Vk "w" = some (.int w) := (hVk "w" (by rfl)).trans (by wtm_at "lk")
    wtm_at "t1"
    repeat wtm_at "e1"
    refine BO.pow (by (first | lia | omega)) (by rw [show Builtin.Int.intBits 2 = 2 by decide]; (first | lia | omega)) ?_
    rw [Int.toNat_natCast]
    repeat wtm_at "e1"
    refine shake X (r.less (by decide)) ow hl₄ (by (first | lia | omega)) (by (first | lia | omega)) (by (first | lia | omega)) fun d hd0 hd1 H'' ow'' => ?_
    exact ⟨ds ++ [d], by rw [List.map_append]; rfl, ow'', lds.snoc ⟨hd0, hd1⟩, by simp [hdl]⟩
  intro ys G₅ hJ
  refine xe1 hJ fun ds hI => el4 hI fun hy ow₅ lds hdl => ?_
  clear hI hJ
  subst hy
  refine ⟨by simp [itemAt], fun g₅ hg₅ => ?_⟩
  refine ow₅.alloc hg₅ (AH.le_set (c := .list (ds.map .int)) hg₅) AH.set_self fun K₅ ow₅' le₅ hgg₅ => ?_
  repeat wtm_at "e1"
  refine ow₅'.call (law_number_spec X (r.less (by decide)) hgg₅ (by (first | lia | omega)) hw1 hw2 lds fun K₆ le₆ G₆ ow₆ => ?_)
  have ha0 := num_nonneg (show (0 : Int) ≤ 2 ^ w by (first | lia | omega)) lds
  have ha1 : num (2 ^ w) ds < 2 ^ 400 := by
    have h1 := num_lt (show (0 : Int) < 2 ^ w by (first | lia | omega)) lds
    rw [hdl, ← Int.pow_mul] at h1
    have h2 := pow_le_pow' (B := 2) (by decide) (show w * 3 ≤ 400 by (first | lia | omega))
    (first | lia | omega)
  generalize num (2 ^ w) ds = av at ha0 ha1
  have hl₆ := le₆ _ _ (le₅ _ _ hl₄)
  -- the leaves
  wtm_at "sc"
  wtm_at "i1"
  repeat wtm_at "e1"
  refine ⟨_, _, _, .inl ⟨rfl, rfl, rfl⟩, by decide, by (first | lia | omega), by decide, by decide, ?_⟩
  rw [rangeSize_up, show ((n : Int) - 0).toNat = n by (first | lia | omega)]
  refine ⟨n, fun k ys H' => ∃ vs, ys = vs.map AV.int ∧ Own b K₆ H' [.int ((5 + k : Nat) : Int), .ref l] ∧ (∀ v ∈ vs, 1 ≤ v ∧ v ≤ 40) ∧ vs.length = k, by wtm_at "sz", ⟨[], rfl, ow₆, (fun x hx => nomatch hx), rfl⟩, ?_, ?_⟩
  · intro L' k ys H' hk hJ
    refine xe1 hJ fun vs hI => el4 hI fun hy ow lvs hvl => ?_
    clear hI hJ
    subst hy
    refine ⟨_, by simp only [itemAt]; rw [if_pos hk], fun Vk hVk => ?_⟩
    have vb' : Vk "bough" = some (.ref b) := (hVk "bough" (by rfl)).trans (by wtm_at "lk")
    wtm_at "t1"
    repeat wtm_at "e1"
    refine shake X (r.less (by decide)) ow hl₆ (by (first | lia | omega)) (by (first | lia | omega)) (by decide) fun d hd0 hd1 H'' ow'' => ?_
    repeat wtm_at "e1"
    refine ⟨vs ++ [1 + d], by rw [List.map_append]; rfl, ow'', fun v hv => ?_, by simp [hvl]⟩
    rcases List.mem_append.mp hv with q | q
    · exact lvs v q
    · rw [List.mem_singleton.mp q]; (first | lia | omega)
  intro ys G₇ hJ
  refine xe1 hJ fun vs hI => el4 hI fun hy ow₇ hvs hvl => ?_
  clear hI hJ
  subst hy
  refine ⟨by simp [itemAt], fun lva hlva => ?_⟩
  refine ow₇.alloc hlva (AH.le_set (c := .list (vs.map .int)) hlva) AH.set_self fun K₇ ow₇' le₇ hlvs => ?_
  generalize G₇.set lva (.list (vs.map .int)) = G₈ at *
  have hL : Leaves vs := ⟨fun e => by rw [e] at hvl; simp at hvl; (first | lia | omega), by (first | lia | omega), hvs⟩
  have hl₇ := le₇ _ _ hl₆
  -- the tree
  wtm_at "s1"
  repeat wtm_at "e1"
  wtm_at "comp"
  wtm_at "i1"
  repeat wtm_at "e1"
  refine ⟨_, _, rfl, ow₇'.le _ _ hlvs, ?_⟩
  refine ⟨vs.length, fun k ys H' => ∃ K, Own b K H' [.int ((5 + n : Nat) : Int), .ref l] ∧ AH.le K₇ K ∧ F2 (LI K) ys (rows w (vs.take k)), by wtm_at "sz", ⟨K₇, ow₇', AH.le_refl, .nil⟩, ?_, ?_⟩
  · intro L' k ys H' hk hJ
    refine xe1 hJ fun K hI => el3 hI fun ow hle fy => ?_
    clear hI hJ
    obtain ⟨v, hv'⟩ : ∃ v, vs[k]? = some v := ⟨_, List.getElem?_eq_getElem hk⟩
    have hvb := hL.good.len hw1 v (List.mem_of_getElem? hv')
    refine ⟨.one (.int v), itl (ow.le _ _ (hle _ _ hlvs)) (getI hv'), fun Vk hVk => ?_⟩
    have vw' : Vk "w" = some (.int w) := (hVk "w" (by rfl)).trans (by wtm_at "lk")
    wtm_at "t1"
    repeat wtm_at "e1"
    refine ow.call (law_limbs_spec X (r.less (by decide)) hw1 hw2 hvb.1 (by (first | lia | omega)) fun K' z hle' hz H'' ow'' => ⟨K', ow'', hle.trans hle', ?_⟩)
    rw [take_succ_snoc hv', rows, List.map_append]
    exact (fy.mono fun _ _ => LI.up hle').snoc hz
  intro ys G₉ hJ
  refine xe1 hJ fun K₉ hI => el3 hI fun ow₉ le₉ fy => ?_
  clear hI hJ
  rw [List.take_length] at fy
  refine ⟨itl_end (ow₉.le _ _ (le₉ _ _ hlvs)) (by simp), fun c hc => ?_⟩
  refine ow₉.alloc hc (AH.le_set (c := .list ys) hc) AH.set_self fun K₁₀ ow₁₀ le₁₀ hcc => ?_
  repeat wtm_at "e1"
  refine EJ.glob hmm ?_ (by rfl) (by decide)
  repeat wtm_at "e1"
  refine ow₁₀.call (product_tree_spec X (r.less (by decide)) hw1 hw2 ⟨c, ys, rfl, hcc, fy.mono fun _ _ => LI.up le₁₀⟩ (by (first | lia | omega)) hL.good fun K₁₁ lb t le₁₁ _ ht hlb G₁₁ ow₁₁ => ?_)
  have lvs₁₁ := le₁₁ _ _ (le₁₀ _ _ (le₉ _ _ hlvs))
  have hl₁₁ := le₁₁ _ _ (le₁₀ _ _ (le₉ _ _ hl₇))
  wtm_at "s1"
  repeat wtm_at "e1"
  refine TJ.call ?_
  repeat wtm_at "e1"
  refine ow₁₁.call (tree_right_spec X (r.less (by decide)) hw1 hw2 hlb lvs₁₁ ht hL ha0 ha1 fun K₁₂ le₁₂ G₁₂ ow₁₂ => ⟨true, rfl, ?_⟩)
  rw [show (!true) = false by rfl, if_neg Bool.false_ne_true]
  wtm_at "s1"
  -- the turns
  wtm_at "s1"
  wtm_at "i1"
  repeat wtm_at "e1"
  refine shake X (r.less (by decide)) ow₁₂ (le₁₂ _ _ hl₁₁) (by (first | lia | omega)) (by (first | lia | omega)) (by decide) fun tn htn0 htn1 G₁₃ ow₁₃ => ?_
  repeat wtm_at "e1"
  refine ⟨_, _, _, .inl ⟨rfl, rfl, rfl⟩, by decide, by (first | lia | omega), by decide, by decide, ?_⟩
  rw [rangeSize_up]
  obtain ⟨m, hm⟩ : ∃ m, m = (tn - 0).toNat := ⟨_, rfl⟩
  rw [← hm]
  refine ⟨m, fun k V' H' => ∃ K i lva lb vs t, V' "bough" = some (.ref b) ∧ V' "many" = some (.int n) ∧ V' "w" = some (.int w) ∧ V' "a" = some (.int av) ∧ V' "leaves" = some (.ref lva) ∧ V' "levels" = some (.ref lb) ∧ Own b K H' [.int ((i : Nat) : Int), .ref l] ∧ i ≤ 20 + 2 * k ∧
    K l = some (.list (ns.map .int)) ∧ K lva = some (.list (vs.map .int)) ∧ LT K (.ref lb) (t.map (rows w)) ∧ Tree vs t ∧ Leaves vs ∧ vs.length = n,
    ⟨K₁₂, _, lva, lb, vs, t, by wtm_at "lk", by wtm_at "lk", by wtm_at "lk", by wtm_at "lk", by wtm_at "lk", by wtm_at "lk", ow₁₃, by (first | lia | omega), le₁₂ _ _ hl₁₁, le₁₂ _ _ lvs₁₁, hlb.up le₁₂, ht, hL, hvl⟩, ?_, ?_⟩
  rotate_left
  · rintro V' H' _
    refine ⟨by simp [itemAt], ?_⟩
    wtm_at "s1"
    repeat wtm_at "e1"
    rfl
  clear ow₁₃ ow₁₂ ow₁₁ ow₁₀ ow₉ ow₇' ow₇ ow₆ ow₅ ow₅' ow₄ ow₃ ow₂ ow₁ hlb lvs₁₁ hl₁₁ ht hL hvs hvl fy hlvs hlva hl₇ hl₆ hl₄
  intro k V' H' hk hJ
  refine xe6 hJ fun K i lva lb vs t hI => el14 hI fun vb vm vw va vlv vle ow hi hl hlvs hlb ht hL hvl => ?_
  clear hI hJ
  refine ⟨_, _, by simp only [itemAt]; rw [if_pos hk], TgtOk.one rfl StX.fr, ?_⟩
  -- spot, leaf
  wtm_at "s1"
  repeat wtm_at "e1"
  refine shake X (r.less (by decide)) ow hl (by (first | lia | omega)) (by (first | lia | omega)) (by (first | lia | omega)) fun s' hs0 hs1 H₁ ow₁ => ?_
  repeat wtm_at "e1"
  refine shake X (r.less (by decide)) ow₁ hl (by (first | lia | omega)) (by (first | lia | omega)) (by decide) fun x' hx0 hx1 H₂ ow₂ => ?_
  repeat wtm_at "e1"
  obtain ⟨s, rfl⟩ : ∃ s : Nat, s' = (s : Int) := ⟨s'.toNat, by (first | lia | omega)⟩
  obtain ⟨x, hx⟩ : ∃ x, x = 1 + x' := ⟨_, rfl⟩
  rw [← hx]
  have hsn : s < vs.length := by (first | lia | omega)
  have hxr : 1 ≤ x ∧ x ≤ 40 := by (first | lia | omega)
  have lim : ∀ v : Int, 0 ≤ v ∧ v ≤ 40 → (limb (2 ^ w) v).length ≤ 1000 := fun v hv => by
    have e : (2 : Int) ^ 10 = 1024 := by decide
    have := limb_len hw1 (m := 10) hv.1 (by (first | lia | omega))
    (first | lia | omega)
  refine ⟨by wtm_at "sz", fun t₁ H₃ ht₁ hle₃ htt₁ => ⟨t₁, _, _, rfl, htt₁, ?_⟩⟩
  have ow₃ := ow₂.up hle₃
  -- before, kept
  wtm_at "s1"
  repeat wtm_at "e1"
  refine CJ.repr (r.less (by decide)) (hlb.up ow₃.le) (hL.sm ht hw1 hw2).show (noDict3 _) (hL.sm ht hw1 hw2).len ?_
  repeat wtm_at "e1"
  refine ⟨by wtm_at "sz", fun t₂ H₄ ht₂ hle₄ htt₂ => ⟨t₂, _, _, rfl, htt₂, ?_⟩⟩
  have ow₄ := ow₃.up hle₄
  -- the graft
  wtm_at "s1"
  repeat wtm_at "e1"
  refine ow₄.call (law_limbs_spec X (r.less (by decide)) hw1 hw2 (by (first | lia | omega)) (lim x (by (first | lia | omega))) fun K₅ z le₅ hz H₅ ow₅ => ?_)
  repeat wtm_at "e1"
  refine ow₅.call (grafted_spec X (r.less (by decide)) hw1 hw2 (hlb.up le₅) hz ht (by (first | lia | omega)) hsn (hL.set hxr).good fun K₆ lb₂ t₂' le₆ hlb₂ ht₂' H₆ ow₆ => ?_)
  have le₀₆ := le₅.trans le₆
  have hL₂ := hL.set (s := s) hxr
  -- the tree of before
  wtm_at "s1"
  repeat wtm_at "e1"
  refine CJ.repr (r.less (by decide)) (hlb.up (le₀₆.trans ow₆.le)) (hL.sm ht hw1 hw2).show (noDict3 _) (hL.sm ht hw1 hw2).len ?_
  repeat wtm_at "e1"
  refine BO.neS ?_
  refine ⟨false, rfl, ?_⟩
  rw [if_neg Bool.false_ne_true]
  repeat wtm_at "e1"
  obtain ⟨ov, hov⟩ : ∃ v, vs[s]? = some v := ⟨_, List.getElem?_eq_getElem hsn⟩
  have hovr := hL.rng ov (List.mem_of_getElem? hov)
  refine ⟨_, _, _, _, rfl, rfl, ow₆.le _ _ (le₀₆ _ _ hlvs), itI (by (first | lia | omega)) (getI hov), ?_⟩
  repeat wtm_at "e1"
  refine ow₆.call (law_limbs_spec X (r.less (by decide)) hw1 hw2 (by (first | lia | omega)) (lim ov (by (first | lia | omega))) fun K₇ z₇ le₇ hz₇ H₇ ow₇ => ?_)
  repeat wtm_at "e1"
  have hback : (vs.set s x).set s ov = vs := by
    rw [List.set_set, ← (List.getElem?_eq_some_iff.mp hov).2, List.set_getElem_self]
  refine ow₇.call (grafted_spec X (r.less (by decide)) hw1 hw2 (hlb₂.up le₇) hz₇ ht₂' (by rw [List.length_set]; (first | lia | omega)) (by rw [List.length_set]; (first | lia | omega)) (by rw [hback]; exact hL.good) fun K₈ lb₃ t₃ le₈ hlb₃ ht₃ H₈ ow₈ => ?_)
  rw [hback] at ht₃
  obtain rfl := ht.uniq ht₃
  have le₀₈ := le₀₆.trans (le₇.trans le₈)
  repeat wtm_at "e1"
  refine BO.ne3 hU (hlb₃.up ow₈.le) (hlb.up (le₀₈.trans ow₈.le)) ?_
  refine ⟨false, rfl, ?_⟩
  rw [if_neg Bool.false_ne_true]
  wtm_at "s1"
  -- the leaves
  wtm_at "s1"
  repeat wtm_at "e1"
  have hlv₈ := ow₈.le _ _ (le₀₈ _ _ hlvs)
  refine ⟨lva, _, rfl, .inl hlv₈, by wtm_at "sz", fun c1 G₁ hc1 gle₁ hcc1 => ?_⟩
  rw [sl_upto, ← List.map_take] at hcc1
  repeat wtm_at "e1"
  refine ⟨by wtm_at "sz", fun c2 G₂ hc2 gle₂ hcc2 => ?_⟩
  refine BO.addN (gle₂ _ _ hcc1) hcc2 (by wtm_at "sz") fun c3 G₃ hc3 gle₃ hcc3 => ?_
  repeat wtm_at "e1"
  have gle₀₃ := gle₁.trans (gle₂.trans gle₃)
  refine ⟨lva, _, rfl, .inl (gle₀₃ _ _ hlv₈), by wtm_at "sz", fun c4 G₄ hc4 gle₄ hcc4 => ?_⟩
  rw [show ((s : Int) + 1) = ((s + 1 : Nat) : Int) by (first | lia | omega), sl_from, ← List.map_drop] at hcc4
  refine BO.addN (gle₄ _ _ hcc3) hcc4 (by wtm_at "sz") fun c5 G₅ hc5 gle₅ hcc5 => ?_
  rw [show ([AV.int x] : List AV) = [x].map AV.int by rfl, ← List.map_append, ← List.map_append, set_split _ _ _ hsn] at hcc5
  have ow₈' := ow₈.up (gle₀₃.trans gle₄)
  refine ow₈'.alloc hc5 gle₅ hcc5 fun K₉ ow₉ le₉ hlvs₉ => ?_
  have le₀₉ := le₀₈.trans le₉
  have le₆₉ : AH.le K₆ K₉ := le₇.trans (le₈.trans le₉)
  wtm_at "s1"
  repeat wtm_at "e1"
  refine TJ.call ?_
  repeat wtm_at "e1"
  refine ow₉.call (tree_right_spec X (r.less (by decide)) hw1 hw2 (hlb₂.up le₆₉) hlvs₉ ht₂' hL₂ ha0 ha1 fun K₁₀ le₁₀ H₁₀ ow₁₀ => ⟨true, rfl, ?_⟩)
  rw [show (!true) = false by rfl, if_neg Bool.false_ne_true]
  wtm_at "s1"
  have hlb₁₀ := hlb₂.up (le₆₉.trans le₁₀)
  -- the other
  wtm_at "s1"
  repeat wtm_at "e1"
  refine BO.mod (by (first | lia | omega)) ?_
  rw [Int.fmod_eq_emod_of_nonneg _ (by (first | lia | omega))]
  obtain ⟨o, ho⟩ : ∃ o : Nat, ((s : Int) + 1) % (n : Int) = (o : Int) := ⟨(((s : Int) + 1) % (n : Int)).toNat, by have := Int.emod_nonneg ((s : Int) + 1) (show (n : Int) ≠ 0 by (first | lia | omega)); (first | lia | omega)⟩
  have hon : o < n := by have := Int.emod_lt_of_pos ((s : Int) + 1) (show (0 : Int) < n by (first | lia | omega)); (first | lia | omega)
  rw [ho]
  have e1L : limb (2 ^ w) 1 = [1] := limb_small hB (by decide) (by (first | lia | omega))
  have e2L : limb (2 ^ w) 2 = [2] := limb_small hB (by decide) (by (first | lia | omega))
  refine SJ.ifJ (fun V'' H'' => ∃ K, V'' "bough" = some (.ref b) ∧ V'' "many" = some (.int n) ∧ V'' "w" = some (.int w) ∧ V'' "a" = some (.int av) ∧ V'' "leaves" = some (.ref c5) ∧ V'' "levels" = some (.ref lb₂) ∧ Own b K H'' [.int ((i + 1 + 1 : Nat) : Int), .ref l] ∧ AH.le K₁₀ K) ?_ ?_
  rotate_left
  · intro V'' H'' hJ
    refine xe1 hJ fun K' hI => el8 hI fun vb vm vw va vlv vle ow' hle' => ?_
    clear hI hJ
    wtm_at "s1"
    exact ⟨K', _, c5, lb₂, _, _, vb, vm, vw, va, vlv, vle, ow', by (first | lia | omega), hle' _ _ (le₁₀ _ _ (le₀₉ _ _ hl)), hle' _ _ (le₁₀ _ _ hlvs₉), hlb₁₀.up hle', ht₂', hL₂, by rw [List.length_set]; exact hvl⟩
  repeat wtm_at "e1"
  by_cases hso : o = s
  · rw [show ((o : Int) != (s : Int)) = false by simp [hso], if_neg Bool.false_ne_true]
    wtm_at "s1"
    exact ⟨K₁₀, by wtm_at "lk", by wtm_at "lk", by wtm_at "lk", by wtm_at "lk", by wtm_at "lk", by wtm_at "lk", ow₁₀, AH.le_refl⟩
  rw [show ((o : Int) != (s : Int)) = true by simp only [bne_iff_ne]; (first | lia | omega), if_pos rfl]
  have hlen2 : (vs.set s x).length = n := by rw [List.length_set]; exact hvl
  have g1 : (1 : Int) ≤ 1 ∧ (1 : Int) ≤ 40 := by decide
  have g2 : (1 : Int) ≤ 2 ∧ (2 : Int) ≤ 40 := by decide
  wtm_at "s1"
  repeat wtm_at "e1"
  refine ⟨by wtm_at "sz", fun d1 G₁₁ hd1 gle₁₁ hdd1 => ?_⟩
  refine ow₁₀.alloc hd1 gle₁₁ hdd1 fun K₁₁ ow₁₁ le₁₁ hd1₁ => ?_
  repeat wtm_at "e1"
  refine ow₁₁.call (grafted_spec (x := 1) X (r.less (by decide)) hw1 hw2 (hlb₁₀.up le₁₁) (by rw [e1L]; exact LI.of hd1₁) ht₂' (by (first | lia | omega)) (by (first | lia | omega)) (hL₂.set g1).good fun K₁₂ p1 u1 le₁₂ hp1 hu1 H₁₂ ow₁₂ => ?_)
  repeat wtm_at "e1"
  refine ⟨by wtm_at "sz", fun d2 G₁₃ hd2 gle₁₃ hdd2 => ?_⟩
  refine ow₁₂.alloc hd2 gle₁₃ hdd2 fun K₁₃ ow₁₃ le₁₃ hd2₁ => ?_
  repeat wtm_at "e1"
  refine ow₁₃.call (grafted_spec (x := 2) X (r.less (by decide)) hw1 hw2 (hp1.up le₁₃) (by rw [e2L]; exact LI.of hd2₁) hu1 (by rw [List.length_set]; (first | lia | omega)) (by rw [List.length_set]; (first | lia | omega)) ((hL₂.set g1).set g2).good fun K₁₄ p2 u2 le₁₄ hp2 hu2 H₁₄ ow₁₄ => ?_)
  have le₁₀₁₄ := le₁₁.trans (le₁₂.trans (le₁₃.trans le₁₄))
  wtm_at "s1"
  repeat wtm_at "e1"
  refine ⟨by wtm_at "sz", fun d3 G₁₅ hd3 gle₁₅ hdd3 => ?_⟩
  refine ow₁₄.alloc hd3 gle₁₅ hdd3 fun K₁₅ ow₁₅ le₁₅ hd3₁ => ?_
  repeat wtm_at "e1"
  refine ow₁₅.call (grafted_spec (x := 2) X (r.less (by decide)) hw1 hw2 (hlb₁₀.up (le₁₀₁₄.trans le₁₅)) (by rw [e2L]; exact LI.of hd3₁) ht₂' (by (first | lia | omega)) (by (first | lia | omega)) (hL₂.set g2).good fun K₁₆ p3 u3 le₁₆ hp3 hu3 H₁₆ ow₁₆ => ?_)
  repeat wtm_at "e1"
  refine ⟨by wtm_at "sz", fun d4 G₁₇ hd4 gle₁₇ hdd4 => ?_⟩
  refine ow₁₆.alloc hd4 gle₁₇ hdd4 fun K₁₇ ow₁₇ le₁₇ hd4₁ => ?_
  repeat wtm_at "e1"
  refine ow₁₇.call (grafted_spec (x := 1) X (r.less (by decide)) hw1 hw2 (hp3.up le₁₇) (by rw [e1L]; exact LI.of hd4₁) hu3 (by rw [List.length_set]; (first | lia | omega)) (by rw [List.length_set]; (first | lia | omega)) ((hL₂.set g2).set g1).good fun K₁₈ p4 u4 le₁₈ hp4 hu4 H₁₈ ow₁₈ => ?_)
  rw [List.set_comm _ _ hso] at hu4
  obtain rfl := hu2.uniq hu4
  have le₁₄₁₈ := le₁₅.trans (le₁₆.trans (le₁₇.trans le₁₈))
  repeat wtm_at "e1"
  refine BO.ne3 hU (hp2.up (le₁₄₁₈.trans ow₁₈.le)) (hp4.up ow₁₈.le) ?_
  refine ⟨false, rfl, ?_⟩
  rw [if_neg Bool.false_ne_true]
  wtm_at "s1"
  wtm_at "s1"
  exact ⟨K₁₈, by wtm_at "lk", by wtm_at "lk", by wtm_at "lk", by wtm_at "lk", by wtm_at "lk", by wtm_at "lk", ow₁₈, le₁₀₁₄.trans le₁₄₁₈⟩

/-! ## the law at its place -/
noncomputable def lawParams : Arguments := match defAt 31 with | some d => d.2.1 | none => default
noncomputable def lawName : Str := match defAt 31 with | some d => d.1 | none => ""
noncomputable def lawBody : List Stmt := match defAt 31 with | some d => d.2.2.1 | none => []
noncomputable def lawScope : Scope := match defAt 31 with | some d => d.2.2.2 | none => default
theorem law_cj {C : Cx} {F : Nat → Addr} {f a : Addr} {ss : List Int} (X : FsOk C F) (hf : IsF C 31 f) (hs : RdL C (fun _ => none) a (ss.map .int)) (hsl : ss.length ≤ 1000) {A : Around} (hA : Room 8 A) :
    CJ C A (.ref f) (fun _ => none) [.ref a] fun v _ => v = .bool true := by
  obtain ⟨n, p, b, s, hd, h⟩ := law_body X hs hsl
  have e1 : lawName = n := by unfold lawName; rw [hd]
  have e2 : lawBody = b := by unfold lawBody; rw [hd]
  have e3 : lawScope = s := by unfold lawScope; rw [hd]
  have e4 : lawParams = p := by unfold lawParams; rw [hd]
  subst e1 e2 e3 e4
  refine CJ.def_ (k := 7) ["script"] hf hA hd ?_ (by with_unfolding_all rfl) (by with_unfolding_all rfl) (by with_unfolding_all rfl) (by with_unfolding_all rfl) fun A' L cd r eo => ?_
  · intro doc pm cdv ct an vals hl
    obtain ⟨_, rfl⟩ := len1 hl
    with_unfolding_all rfl
  · exact SJ.mono (h A' L f cd r eo) fun fl V H e => by rw [e]
theorem ncont {x : Str} {l : List Str} (h : l.contains x = false) : x ∉ l := by simpa using h
section
variable {C : Cx} {loose : List Str} {mean : ExcName → Option Value}
theorem isF_of (T : Top view loose mean C.mg C.mb C.hb) {i : Nat} (j : Nat) {d : DefRec} (hj : (recsOf view)[j]? = some d) (hi : defAt i = some (d.name, d.params, d.body, d.scope)) : ∃ a, IsF C i a := by
  obtain ⟨a, o, pm, code, doc, h1, h2, h3, h4⟩ := T.fn d (List.mem_of_getElem? hj)
  refine ⟨a, _, _, _, _, hi, o.cls, o.dict, o.slots, doc, pm, none, code, .none, ?_, h4, h1⟩
  rw [h2]
  obtain ⟨oc, od, odt, osl⟩ := o
  dsimp only at h3 ⊢
  rw [h3]
  rfl
theorem isF_all (T : Top view loose mean C.mg C.mb C.hb) : ∀ i ∈ [3, 4, 5, 6, 7, 8, 9, 11, 12, 13, 14, 15, 17, 18, 19, 20, 21, 22, 23, 25, 26, 27, 28, 29, 30], ∃ a, IsF C i a := by
  intro i hi
  simp only [List.mem_cons, List.not_mem_nil, or_false] at hi
  rcases hi with rfl | rfl | rfl | rfl | rfl | rfl | rfl | rfl | rfl | rfl | rfl | rfl | rfl | rfl | rfl | rfl | rfl | rfl | rfl | rfl | rfl | rfl | rfl | rfl | rfl
  · exact isF_of T 0 (by with_unfolding_all rfl) (by with_unfolding_all rfl)
  · exact isF_of T 1 (by with_unfolding_all rfl) (by with_unfolding_all rfl)
  · exact isF_of T 2 (by with_unfolding_all rfl) (by with_unfolding_all rfl)
  · exact isF_of T 3 (by with_unfolding_all rfl) (by with_unfolding_all rfl)
  · exact isF_of T 4 (by with_unfolding_all rfl) (by with_unfolding_all rfl)
  · exact isF_of T 5 (by with_unfolding_all rfl) (by with_unfolding_all rfl)
  · exact isF_of T 6 (by with_unfolding_all rfl) (by with_unfolding_all rfl)
  · exact isF_of T 7 (by with_unfolding_all rfl) (by with_unfolding_all rfl)
  · exact isF_of T 8 (by with_unfolding_all rfl) (by with_unfolding_all rfl)
  · exact isF_of T 9 (by with_unfolding_all rfl) (by with_unfolding_all rfl)
  · exact isF_of T 10 (by with_unfolding_all rfl) (by with_unfolding_all rfl)
  · exact isF_of T 11 (by with_unfolding_all rfl) (by with_unfolding_all rfl)
  · exact isF_of T 12 (by with_unfolding_all rfl) (by with_unfolding_all rfl)
  · exact isF_of T 13 (by with_unfolding_all rfl) (by with_unfolding_all rfl)
  · exact isF_of T 14 (by with_unfolding_all rfl) (by with_unfolding_all rfl)
  · exact isF_of T 15 (by with_unfolding_all rfl) (by with_unfolding_all rfl)
  · exact isF_of T 16 (by with_unfolding_all rfl) (by with_unfolding_all rfl)
  · exact isF_of T 17 (by with_unfolding_all rfl) (by with_unfolding_all rfl)
  · exact isF_of T 18 (by with_unfolding_all rfl) (by with_unfolding_all rfl)
  · exact isF_of T 19 (by with_unfolding_all rfl) (by with_unfolding_all rfl)
  · exact isF_of T 20 (by with_unfolding_all rfl) (by with_unfolding_all rfl)
  · exact isF_of T 21 (by with_unfolding_all rfl) (by with_unfolding_all rfl)
  · exact isF_of T 22 (by with_unfolding_all rfl) (by with_unfolding_all rfl)
  · exact isF_of T 23 (by with_unfolding_all rfl) (by with_unfolding_all rfl)
  · exact isF_of T 24 (by with_unfolding_all rfl) (by with_unfolding_all rfl)
open Classical in
theorem fsOk (T : Top view loose mean C.mg C.mb C.hb) (hfree : (["len", "range", "enumerate", "zip", "min", "abs", "int", "sum", "any", "repr"] : List Str).all (fun x => !startupNames.contains x && !loose.contains x && !((recsOf view).map (·.name)).contains x && !((litsOf view).map (·.1)).contains x && !((clssOf view loose).map (·.name)).contains x) = true) :
    FsOk C (fun i => if h : ∃ a, IsF C i a then h.choose else 0) where
  f := fun i hi => by
    have h := isF_all T i hi
    show IsF C i (if h : ∃ a, IsF C i a then h.choose else 0)
    rw [dif_pos h]; exact h.choose_spec
  b := fun x hx => by
    have := List.all_eq_true.mp hfree x hx
    simp only [Bool.and_eq_true, Bool.not_eq_true'] at this
    exact T.free x (ncont this.1.1.1.1) (ncont this.1.1.1.2) (ncont this.1.1.2) (ncont this.1.2) (ncont this.2)
end
theorem er_ints : ∀ {vs : List Value} {ss : List Int}, IntsAre vs ss → vs.map er = ss.map .int
  | _, _, .nil => rfl
  | _, _, .cons n t r => congrArg (AV.int n :: ·) (er_ints r)
theorem law_end {prog : Program} {w : World} {s₁ : Shared} {mg mb : Str → Option Value} {loose : List Str} {mean : ExcName → Option Value} {a fa : Addr} {vs : List Value} {ss : List Int} {R E : Value → Shared → Prop}
    (T : Top view loose mean mg mb s₁.heap) (hfree : (["len", "range", "enumerate", "zip", "min", "abs", "int", "sum", "any", "repr"] : List Str).all (fun x => !startupNames.contains x && !loose.contains x && !((recsOf view).map (·.name)).contains x && !((litsOf view).map (·.1)).contains x && !((clssOf view loose).map (·.name)).contains x) = true)
    (hg : s₁.gens = #[]) (hL : s₁.heap.IsList a vs.toArray) (hI : IntsAre vs ss) (hn : ¬ ((63 : Nat) : Int) < ((ss.length : Nat) : Int)) (hmg : mg "law" = some (.ref fa))
    (hR : ∀ s' : Shared, (∀ b o, s₁.heap.get? b = some o → s'.heap.get? b = some o) → s'.os = s₁.os → s'.gens = #[] → R (.bool true) s') :
    wpAny (model prog w) callerA (call (.ref fa) [.ref a]) R E s₁ := by
  let C : Cx := ⟨prog, w, s₁.heap, mg, mb, T.g, T.b, T.nolimit, T.builtins, T.nodigits⟩
  have hf : IsF C 31 fa := by
    obtain ⟨f', h⟩ := isF_of (C := C) T (i := 31) 25 (by with_unfolding_all rfl) (by with_unfolding_all rfl)
    have e : mg "law" = some (.ref f') := h.ns (by with_unfolding_all rfl)
    rw [hmg] at e
    cases e
    exact h
  have run := law_cj (C := C) (fsOk T hfree) hf (.inr ⟨vs, hL, er_ints hI⟩) (by omega) (A := callerA) ⟨rfl, by decide, by decide, rfl⟩ s₁ [.ref a] rfl ⟨fun b o e => e, (fun (b : Addr) (c : Cell) e => nomatch e), fun b e => (e rfl).elim⟩
  refine wpAny_mono run (fun v s' hq => ?_) fun _ _ z => z.elim
  obtain ⟨H', q, h', t'⟩ := hq
  rw [er_bool q]
  obtain ⟨⟨h2, tk2, e2⟩, k2, _, _⟩ := t'
  exact hR s' (fun b o e => k2 b o e rfl fun hX => hX) (by rw [e2]) (by rw [e2]; exact hg)
theorem saidOk : OpenLaw.wellSaid PySem.Challenge.rw_sj0078_01 = true := by
  delta OpenLaw.wellSaid OpenRow.wellSaid OpenRow.partSaid looksOpen
  repeat' with_reducible refine look_both ?_ ?_
  all_goals decide +kernel
end Mine
open PySem PySem.W PyProof.Rows
theorem PySem.Challenge.cw_sj0078_01_holds : PySem.Challenge.rw_sj0078_01.Holds := by
  w_on
  refine holds_law Mine.saidOk fun said => ?_
  refine holds_open (q := Mine.view) (loose := []) (Xt := fun s => xlAt Mine.view [] s && recOk [] s) (XP := XL Mine.view []) (Yf := Hook.obs Hook.none) (Ya := Hook.val Hook.none) (YP := Hook.says Hook.none) (N := 2716) Mine.hl (Hook.of Hook.none) (Hook.keeps Hook.none) (fun s e => xl_of s (Bool.and_eq_true_iff.mp e).1) XL.keeps (by rfl) (by rfl) (by rfl) (fun s e => recFacts_of (Bool.and_eq_true_iff.mp e).2) (by rfl) (by first | assumption | decide +kernel) (by decide +kernel) ⟨rfl, rfl, rfl, rfl, rfl, by decide +kernel⟩ ?hw ?hc
  case hw => w_witness2
  case hc =>
    intro w s₀ s₁ mg mb G Y fa o pm cd doc dV kV ho hd hcd hD hmg hg args vals as hpre hlay hrd hwl hlo
    refine Ground.open G ?_
    intro T B D TE TW
    wrow_args hpre hlay hrd hwl hlo
    refine Mine.law_end (by assumption) (by decide +kernel) (by assumption) (by assumption) (by assumption) (by assumption) hmg ?_
    intro s' hk hos hgn
    refine GoodW.toG ⟨.inl ⟨.bool true, ?_, [], rfl, fun _ => rfl, ?_, ?_, fun _ => ⟨.nil, fun a ha => nomatch ha⟩⟩, hk, hos, hgn⟩
    · exact .bool true
    · exact ReadsW.bool _
    · with_unfolding_all rfl
