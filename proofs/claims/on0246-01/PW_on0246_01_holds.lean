import PyProof.Rows.All
import Wide.All
import OpenK.AllK
import Wide.FinOn
import PySem.Challenge.RW_on0246_01
open PySem PySem.W PyProof.Rows
set_option Elab.async false
set_option maxRecDepth 100000
set_option linter.unusedVariables false
set_option compiler.extract_closed false
set_option maxHeartbeats 8000000
namespace Mine
inductive PV where
  | none
  | bool (b : Bool)
  | int (i : Int)
  | str (s : Str)
  | tup (l : List PV)
  | lst (l : List PV)
  | obj (C : Addr) (ns : List Str) (l : List PV)
  | dct (ks : List (List Int)) (l : List PV)
  | self (C d : Addr)
  | at (a : Addr)
deriving Inhabited
inductive Box where
  | list (l : List PV)
  | dict (ks : List (List Int)) (l : List PV)
  | flds (ns : List Str) (l : List PV)
noncomputable def Sto : Type := Addr → Option Box
noncomputable def Sto.upd (σ : Sto) (a : Addr) (b : Box) : Sto := fun x => if x = a then some b else σ x
noncomputable def Sto.drop (σ : Sto) (a : Addr) : Sto := fun x => if x = a then none else σ x
inductive Flds (P : Params) : List Str → List Value → List DictEntry → Prop
  | nil : Flds P [] [] []
  | cons {x : Str} {ns : List Str} {v : Value} {vs : List Value} {e : DictEntry} {es : List DictEntry} {t : Tok} (hk : e.key = .str x t) (hh : e.hash = PyData.keyHash P x) (hv : e.val = v) (r : Flds P ns vs es) : Flds P (x :: ns) (v :: vs) (e :: es)
noncomputable abbrev kd (prog : Program) (w : World) : HeapKind prog w (List Int) := tupleKind (intKind prog w)
section
variable (prog : Program) (w : World)
mutual
noncomputable def Rep (h : Heap) (bad : Addr → Prop) : PV → Value → Prop
  | .none, v => v = .none
  | .bool b, v => v = .bool b
  | .int i, v => ∃ t, v = .int i t
  | .str x, v => ∃ t, v = .str x t
  | .at a, v => v = .ref a
  | .self C d, v => ∃ a, v = .ref a ∧ ¬ bad a ∧ h.get? a = some (instObj C d)
  | .tup l, v => ∃ a vs, v = .ref a ∧ ¬ bad a ∧ h.IsTuple a vs.toArray ∧ Reps h bad l vs
  | .lst l, v => ∃ a vs n, v = .ref a ∧ ¬ bad a ∧ h.get? a = some (listOf vs.toArray n) ∧ Reps h bad l vs
  | .obj C ns l, v => ∃ a d es n vs, v = .ref a ∧ ¬ bad a ∧ ¬ bad d ∧ h.get? a = some (instObj C d) ∧ h.get? d = some (dictOf es n) ∧ Flds w.params ns vs es ∧ Reps h bad l vs
  | .dct ks l, v => ∃ a xs, v = .ref a ∧ ¬ bad a ∧ (a == sysModules) = false ∧ h.DictOfH (kd prog w) a xs ∧ (∀ x ∈ xs, ¬ bad x.2.1) ∧ xs.map (·.1) = ks ∧ Reps h bad l (xs.map (·.2.2))
noncomputable def Reps (h : Heap) (bad : Addr → Prop) : List PV → List Value → Prop
  | [], vs => vs = []
  | p :: ps, vs => ∃ v us, vs = v :: us ∧ Rep h bad p v ∧ Reps h bad ps us
end
noncomputable def BoxRep (h : Heap) (bad : Addr → Prop) (a : Addr) : Box → Prop
  | .list l => ∃ vs n, h.get? a = some (listOf vs.toArray n) ∧ Reps prog w h bad l vs
  | .dict ks l => (a == sysModules) = false ∧ ∃ xs, h.DictOfH (kd prog w) a xs ∧ (∀ x ∈ xs, ¬ bad x.2.1) ∧ xs.map (·.1) = ks ∧ Reps prog w h bad l (xs.map (·.2.2))
  | .flds ns l => ∃ es n vs, h.get? a = some (dictOf es n) ∧ Flds w.params ns vs es ∧ Reps prog w h bad l vs
noncomputable def Bad (X : Addr → Prop) (σ : Sto) (a : Addr) : Prop := X a ∨ σ a ≠ none
structure Sat (G : Heap) (X : Addr → Prop) (h : Heap) (σ : Sto) : Prop where
  gr : G.StaysIn h
  gx : ∀ a, X a → σ a = none ∧ G.get? a = none ∧ ∃ o, h.get? a = some o
  gs : ∀ a b, σ a = some b → G.get? a = none ∧ BoxRep prog w h (Bad X σ) a b
end
structure Step (F : Addr → Prop) (s : Shared) (σ : Sto) (s' : Shared) (σ' : Sto) : Prop where
  eq : ∃ h tk, s' = { s with heap := h, toks := tk }
  keep : ∀ a o, s.heap.get? a = some o → σ a = none → ¬ F a → s'.heap.get? a = some o
  grow : ∀ a, σ' a ≠ none → σ a = none → s.heap.get? a = none
noncomputable def NoF : Addr → Prop := fun _ => False
section
variable {prog : Program} {w : World}
theorem Step.refl (F : Addr → Prop) (s : Shared) (σ : Sto) : Step F s σ s σ := ⟨⟨s.heap, s.toks, rfl⟩, fun _ _ e _ _ => e, fun _ h1 h2 => absurd h2 h1⟩
theorem Step.nn {F : Addr → Prop} {s s' : Shared} {σ σ' : Sto} (x : Step F s σ s' σ') {a : Addr} {o : Obj} (e : s.heap.get? a = some o) (hn : σ a = none) : σ' a = none := by
  cases q : σ' a with
  | none => rfl
  | some b => have := x.grow a (by rw [q]; exact fun z => nomatch z) hn; rw [e] at this; cases this
theorem Step.trans {G : Heap} {X F : Addr → Prop} {s₁ s₂ s₃ : Shared} {σ₁ σ₂ σ₃ : Sto} (x : Step F s₁ σ₁ s₂ σ₂) (y : Step F s₂ σ₂ s₃ σ₃) (S : Sat prog w G X s₂.heap σ₂) (hF : ∀ a, F a → X a) : Step F s₁ σ₁ s₃ σ₃ := by
  refine ⟨?_, fun a o e hn hF => y.keep a o (x.keep a o e hn hF) (x.nn e hn) hF, fun a h1 h2 => ?_⟩
  · obtain ⟨h, tk, rfl⟩ := x.eq
    obtain ⟨h', tk', rfl⟩ := y.eq
    exact ⟨h', tk', rfl⟩
  · cases q : s₁.heap.get? a with
    | none => rfl
    | some o =>
      have h3 := x.nn q h2
      have h4 := y.grow a h1 h3
      by_cases hf : F a
      · obtain ⟨o', ho'⟩ := (S.gx a (hF a hf)).2.2
        rw [ho'] at h4; cases h4
      · rw [x.keep a o q h2 hf] at h4; cases h4
theorem Step.mono {F F' : Addr → Prop} {s s' : Shared} {σ σ' : Sto} (x : Step F s σ s' σ') (h : ∀ a, F a → F' a) : Step F' s σ s' σ' := ⟨x.eq, fun a o e hn hF => x.keep a o e hn fun z => hF (h a z), x.grow⟩
theorem Flds.length {P : Params} {ns : List Str} {vs : List Value} {es : List DictEntry} (h : Flds P ns vs es) : ns.length = vs.length ∧ vs.length = es.length := by
  induction h with
  | nil => exact ⟨rfl, rfl⟩
  | cons _ _ _ _ ih => exact ⟨congrArg (· + 1) ih.1, congrArg (· + 1) ih.2⟩
structure Stay (h : Heap) (bad : Addr → Prop) (h' : Heap) (bad' : Addr → Prop) : Prop where
  get : ∀ a o, h.get? a = some o → ¬ bad a → h'.get? a = some o
  good : ∀ a o, h.get? a = some o → ¬ bad a → ¬ bad' a
theorem isTuple_stay {h h' : Heap} {bad bad' : Addr → Prop} (k : Stay h bad h' bad') {a : Addr} {vs : Array Value} (hb : ¬ bad a) (x : h.IsTuple a vs) : h'.IsTuple a vs ∧ ¬ bad' a := by
  obtain ⟨o, ho, r⟩ := x
  exact ⟨⟨o, k.get a o ho hb, r⟩, k.good a o ho hb⟩
theorem dictOf_stay {h h' : Heap} {bad bad' : Addr → Prop} (k : Stay h bad h' bad') {a : Addr} {xs : List (List Int × Addr × Value)} (hb : h'.get? a = h.get? a) (hx : ∀ x ∈ xs, ¬ bad x.2.1) (x : h.DictOfH (kd prog w) a xs) : h'.DictOfH (kd prog w) a xs ∧ ∀ x ∈ xs, ¬ bad' x.2.1 := by
  obtain ⟨o, es, ep, ho, hc, hd, he, hi, hn⟩ := x
  refine ⟨⟨o, es, ep, hb.trans ho, hc, hd, he, fun y hy => ?_, hn⟩, fun y hy => ?_⟩
  · obtain ⟨ot, its, nt, hot, r⟩ := hi y hy
    exact ⟨ot, its, nt, k.get _ _ hot (hx y hy), r⟩
  · obtain ⟨ot, its, nt, hot, r⟩ := hi y hy
    exact k.good _ _ hot (hx y hy)
mutual
theorem Rep.stay {h h' : Heap} {bad bad' : Addr → Prop} (k : Stay h bad h' bad') : ∀ {p : PV} {v : Value}, Rep prog w h bad p v → Rep prog w h' bad' p v
  | .none, _, x => by simpa only [Rep] using x
  | .bool _, _, x => by simpa only [Rep] using x
  | .int _, _, x => by simpa only [Rep] using x
  | .str _, _, x => by simpa only [Rep] using x
  | .at _, _, x => by simpa only [Rep] using x
  | .self C d, _, x => by
    simp only [Rep] at x ⊢
    obtain ⟨a, e, hb, ho⟩ := x
    exact ⟨a, e, k.good _ _ ho hb, k.get _ _ ho hb⟩
  | .tup l, _, x => by
    simp only [Rep] at x ⊢
    obtain ⟨a, vs, e, hb, ho, r⟩ := x
    obtain ⟨ho', hb'⟩ := isTuple_stay k hb ho
    exact ⟨a, vs, e, hb', ho', Reps.stay k r⟩
  | .lst l, _, x => by
    simp only [Rep] at x ⊢
    obtain ⟨a, vs, n, e, hb, ho, r⟩ := x
    exact ⟨a, vs, n, e, k.good _ _ ho hb, k.get _ _ ho hb, Reps.stay k r⟩
  | .obj C ns l, _, x => by
    simp only [Rep] at x ⊢
    obtain ⟨a, d, es, n, vs, e, hb, hb', ho, ho', hf, r⟩ := x
    exact ⟨a, d, es, n, vs, e, k.good _ _ ho hb, k.good _ _ ho' hb', k.get _ _ ho hb, k.get _ _ ho' hb', hf, Reps.stay k r⟩
  | .dct ks l, _, x => by
    simp only [Rep] at x ⊢
    obtain ⟨a, xs, e, hb, hsm, ho, hx, hk, r⟩ := x
    obtain ⟨o, _, _, ho1, _⟩ := id ho
    obtain ⟨ho', hx'⟩ := dictOf_stay k ((k.get a o ho1 hb).trans ho1.symm) hx ho
    exact ⟨a, xs, e, k.good _ _ ho1 hb, hsm, ho', hx', hk, Reps.stay k r⟩
theorem Reps.stay {h h' : Heap} {bad bad' : Addr → Prop} (k : Stay h bad h' bad') : ∀ {l : List PV} {vs : List Value}, Reps prog w h bad l vs → Reps prog w h' bad' l vs
  | [], _, x => by simpa only [Reps] using x
  | p :: ps, _, x => by
    simp only [Reps] at x ⊢
    obtain ⟨v, us, e, a, b⟩ := x
    exact ⟨v, us, e, Rep.stay k a, Reps.stay k b⟩
end
theorem Reps.length {h : Heap} {bad : Addr → Prop} : ∀ {l : List PV} {vs : List Value}, Reps prog w h bad l vs → vs.length = l.length
  | [], _, x => by simp only [Reps] at x; subst x; rfl
  | p :: ps, _, x => by
    simp only [Reps] at x
    obtain ⟨v, us, rfl, _, b⟩ := x
    simp only [List.length_cons, Reps.length b]
theorem Reps.get {h : Heap} {bad : Addr → Prop} : ∀ {l : List PV} {vs : List Value} {i : Nat} {p : PV}, Reps prog w h bad l vs → l[i]? = some p → ∃ v, vs[i]? = some v ∧ Rep prog w h bad p v
  | [], _, i, _, _, e => by simp at e
  | p :: ps, _, i, q, x, e => by
    simp only [Reps] at x
    obtain ⟨v, us, rfl, a, b⟩ := x
    cases i with
    | zero => simp only [List.getElem?_cons_zero, Option.some.injEq] at e; subst e; exact ⟨v, rfl, a⟩
    | succ i => simp only [List.getElem?_cons_succ] at e ⊢; exact Reps.get b e
theorem Reps.append {h : Heap} {bad : Addr → Prop} : ∀ {l l' : List PV} {vs vs' : List Value}, Reps prog w h bad l vs → Reps prog w h bad l' vs' → Reps prog w h bad (l ++ l') (vs ++ vs')
  | [], _, _, _, x, y => by simp only [Reps] at x; subst x; exact y
  | p :: ps, _, _, _, x, y => by
    simp only [Reps] at x
    obtain ⟨v, us, rfl, a, b⟩ := x
    simp only [List.cons_append, Reps]
    exact ⟨v, _, rfl, a, Reps.append b y⟩
theorem Reps.nil {h : Heap} {bad : Addr → Prop} : Reps prog w h bad [] [] := by simp only [Reps]
theorem Reps.cons {h : Heap} {bad : Addr → Prop} {p : PV} {v : Value} {l : List PV} {vs : List Value} (a : Rep prog w h bad p v) (b : Reps prog w h bad l vs) : Reps prog w h bad (p :: l) (v :: vs) := by
  simp only [Reps]; exact ⟨v, vs, rfl, a, b⟩
theorem Reps.set {h : Heap} {bad : Addr → Prop} {p : PV} {v : Value} : ∀ {l : List PV} {vs : List Value} (i : Nat), Reps prog w h bad l vs → Rep prog w h bad p v → Reps prog w h bad (l.set i p) (vs.set i v)
  | [], _, i, x, _ => by simp only [Reps] at x; subst x; exact Reps.nil
  | q :: ps, _, i, x, y => by
    simp only [Reps] at x
    obtain ⟨u, us, rfl, a, b⟩ := x
    cases i with
    | zero => exact Reps.cons y b
    | succ i => exact Reps.cons a (Reps.set i b y)
theorem Reps.take {h : Heap} {bad : Addr → Prop} : ∀ {l : List PV} {vs : List Value} (i : Nat), Reps prog w h bad l vs → Reps prog w h bad (l.take i) (vs.take i)
  | _, _, 0, _ => Reps.nil
  | [], _, i + 1, x => by simp only [Reps] at x; subst x; exact Reps.nil
  | q :: ps, _, i + 1, x => by
    simp only [Reps] at x
    obtain ⟨u, us, rfl, a, b⟩ := x
    exact Reps.cons a (Reps.take i b)
theorem Reps.drop {h : Heap} {bad : Addr → Prop} : ∀ {l : List PV} {vs : List Value} (i : Nat), Reps prog w h bad l vs → Reps prog w h bad (l.drop i) (vs.drop i)
  | _, _, 0, x => x
  | [], _, i + 1, x => by simp only [Reps] at x; subst x; exact Reps.nil
  | q :: ps, _, i + 1, x => by
    simp only [Reps] at x
    obtain ⟨u, us, rfl, a, b⟩ := x
    exact Reps.drop i b
theorem Step.stay {X F : Addr → Prop} {s s' : Shared} {σ σ' : Sto} (x : Step F s σ s' σ') (hF : ∀ a, F a → X a) : Stay s.heap (Bad X σ) s'.heap (Bad X σ') := by
  refine ⟨fun a o e hb => x.keep a o e ?_ fun z => hb (.inl (hF a z)), fun a o e hb hb' => ?_⟩
  · cases q : σ a with
    | none => rfl
    | some b => exact absurd (.inr (by rw [q]; exact fun z => nomatch z)) hb
  · have hn : σ a = none := by
      cases q : σ a with
      | none => rfl
      | some b => exact absurd (.inr (by rw [q]; exact fun z => nomatch z)) hb
    rcases hb' with h | h
    · exact hb (.inl h)
    · exact h (x.nn e hn)
end
set_option genSizeOfSpec false
set_option genInjectivity false
structure Cx (prog : Program) (w : World) (K : Frag) where
  G : Heap
  p : Program
  loose : List Str
  mg : Str → Option Value
  mb : Str → Option Value
  X : K.In G
  T : TopRead p loose mg mb G
  big : ∃ x, sysModules < x ∧ ∃ o, G.get? x = some o
structure Room (n : Nat) (A : Around) : Prop where
  depth : A.depth + 4 * n < 950
  units : A.units + 16 * n + 64 < 9900
  handled : A.handled = none
theorem Room.mono {n m : Nat} {A : Around} (r : Room n A) (h : m ≤ n) : Room m A := ⟨by have := r.depth; (first | lia | omega), by have := r.units; (first | lia | omega), r.handled⟩
theorem Room.depth_lt {n : Nat} {A : Around} (r : Room n A) : A.depth < recursionLimit := by have := r.depth; have : recursionLimit = 1000 := rfl; (first | lia | omega)
noncomputable def Own (env : Env) (a : Addr) : Prop := a = env.locals ∨ env.frame = some env.locals ∧ ∃ x, (x, NameKind.cell) ∈ env.scope.names ∧ env.cells.lookup x = some a
noncomputable def Mine (env : Env) (k : NameKind) : Prop := k = .local ∨ k = .cell ∧ env.frame = some env.locals
structure EnvOk (env : Env) (X : Addr → Prop) : Prop where
  fn : env.scope.kind = .function
  nd : (env.scope.names.map (·.1)).Nodup
  gl : env.globals = mainGlobals
  bi : env.builtins = builtinsNs
  own : ∀ a, Own env a → X a
  inj : ∀ x y a, env.cells.lookup x = some a → env.cells.lookup y = some a → x = y
  nl : ∀ x a, env.cells.lookup x = some a → a ≠ env.locals
  cx : ∀ x a, env.cells.lookup x = some a → X a
noncomputable def HeldAt (env : Env) (X : Addr → Prop) (h : Heap) (m : Str → Option Value) (x : Str) (k : NameKind) (v : Value) : Prop :=
  (k = .local ∧ m x = some v) ∨ ((k = .cell ∨ k = .free) ∧ ∃ c, env.cells.lookup x = some c ∧ X c ∧ h.IsCell c (some v))
section
variable (prog : Program) (w : World)
structure LRep (env : Env) (X : Addr → Prop) (h : Heap) (bad : Addr → Prop) (ρ : List (Option PV)) : Prop where
  ok : EnvOk env X
  ns : ∃ m, h.Ns env.locals m ∧ ∀ (i : Nat) x k pv, env.scope.names[i]? = some (x, k) → ρ[i]? = some (some pv) → ∃ v, Rep prog w h bad pv v ∧ HeldAt env X h m x k v
  cl : ∀ x, (x, NameKind.cell) ∈ env.scope.names → ∃ a, env.cells.lookup x = some a ∧ X a ∧ ∃ v, h.IsCell a v
end
section
variable {prog : Program} {w : World} {K : Frag}
inductive EPost (c : Cx prog w K) (env : Env) (X : Addr → Prop) (ρ : List (Option PV)) (s : Shared) (σ : Sto) (Q : PV → Sto → Prop) (v : Value) (s' : Shared) : Prop
  | mk (pv : PV) (σ' : Sto) (rv : Rep prog w s'.heap (Bad X σ') pv v) (S : Sat prog w c.G X s'.heap σ') (R : LRep prog w env X s'.heap (Bad X σ') ρ) (x : Step (Own env) s σ s' σ') (q : Q pv σ')
noncomputable def NoE : Value → Shared → Prop := fun _ _ => False
noncomputable def Ev (c : Cx prog w K) (n : Nat) (env : Env) (e : PySem.Expr) (ρ : List (Option PV)) (σ : Sto) (Q : PV → Sto → Prop) : Prop :=
  ∀ A X s, Room n A → Sat prog w c.G X s.heap σ → LRep prog w env X s.heap (Bad X σ) ρ → wpAny (model prog w) A (eval e env) (EPost c env X ρ s σ Q) NoE s
inductive TPost (c : Cx prog w K) (env : Env) (X : Addr → Prop) (ρ : List (Option PV)) (s : Shared) (σ : Sto) (Q : Bool → Sto → Prop) (b : Bool) (s' : Shared) : Prop
  | mk (σ' : Sto) (S : Sat prog w c.G X s'.heap σ') (R : LRep prog w env X s'.heap (Bad X σ') ρ) (x : Step (Own env) s σ s' σ') (q : Q b σ')
noncomputable def Te (c : Cx prog w K) (n : Nat) (env : Env) (e : PySem.Expr) (ρ : List (Option PV)) (σ : Sto) (Q : Bool → Sto → Prop) : Prop :=
  ∀ A X s, Room n A → Sat prog w c.G X s.heap σ → LRep prog w env X s.heap (Bad X σ) ρ → wpAny (model prog w) A (isTrue e env (eval e env)) (TPost c env X ρ s σ Q) NoE s
inductive LPost (c : Cx prog w K) (env : Env) (X : Addr → Prop) (ρ : List (Option PV)) (s : Shared) (σ : Sto) (Q : List PV → Sto → Prop) (vs : List Value) (s' : Shared) : Prop
  | mk (l : List PV) (σ' : Sto) (rl : Reps prog w s'.heap (Bad X σ') l vs) (S : Sat prog w c.G X s'.heap σ') (R : LRep prog w env X s'.heap (Bad X σ') ρ) (x : Step (Own env) s σ s' σ') (q : Q l σ')
noncomputable def Es (c : Cx prog w K) (n : Nat) (env : Env) (es : List PySem.Expr) (ρ : List (Option PV)) (σ : Sto) (Q : List PV → Sto → Prop) : Prop :=
  ∀ A X s pos, Room n A → Sat prog w c.G X s.heap σ → LRep prog w env X s.heap (Bad X σ) ρ → wpAny (model prog w) A (spliced (backTo pos (starEach es env))) (LPost c env X ρ s σ Q) NoE s
inductive FV where
  | next | brk | cont
  | ret (p : PV)
noncomputable def FRep (h : Heap) (bad : Addr → Prop) (prog : Program) (w : World) : FV → Flow → Prop
  | .next, f => f = .next
  | .brk, f => f = .brk
  | .cont, f => f = .cont
  | .ret p, f => ∃ v, f = .ret v ∧ Rep prog w h bad p v
inductive SPost (c : Cx prog w K) (env : Env) (X : Addr → Prop) (s : Shared) (σ : Sto) (Q : FV → List (Option PV) → Sto → Prop) (f : Flow) (s' : Shared) : Prop
  | mk (fv : FV) (ρ' : List (Option PV)) (σ' : Sto) (rf : FRep s'.heap (Bad X σ') prog w fv f) (S : Sat prog w c.G X s'.heap σ') (R : LRep prog w env X s'.heap (Bad X σ') ρ') (x : Step (Own env) s σ s' σ') (q : Q fv ρ' σ')
noncomputable def Ex (c : Cx prog w K) (n : Nat) (env : Env) (st : Stmt) (ρ : List (Option PV)) (σ : Sto) (Q : FV → List (Option PV) → Sto → Prop) : Prop :=
  ∀ A X s, Room n A → Sat prog w c.G X s.heap σ → LRep prog w env X s.heap (Bad X σ) ρ → wpAny (model prog w) A (exec st env) (SPost c env X s σ Q) NoE s
noncomputable def Xs (c : Cx prog w K) (n : Nat) (env : Env) (ss : List Stmt) (ρ : List (Option PV)) (σ : Sto) (Q : FV → List (Option PV) → Sto → Prop) : Prop :=
  ∀ A X s, Room n A → Sat prog w c.G X s.heap σ → LRep prog w env X s.heap (Bad X σ) ρ → wpAny (model prog w) A (execs ss env) (SPost c env X s σ Q) NoE s
inductive CPost (c : Cx prog w K) (X : Addr → Prop) (s : Shared) (σ : Sto) (Q : PV → Sto → Prop) (v : Value) (s' : Shared) : Prop
  | mk (pv : PV) (σ' : Sto) (rv : Rep prog w s'.heap (Bad X σ') pv v) (S : Sat prog w c.G X s'.heap σ') (x : Step NoF s σ s' σ') (q : Q pv σ')
noncomputable def Ca (c : Cx prog w K) (n : Nat) (f : Value) (l : List PV) (σ : Sto) (Q : PV → Sto → Prop) : Prop :=
  ∀ A X s vs, Room n A → Sat prog w c.G X s.heap σ → Reps prog w s.heap (Bad X σ) l vs → wpAny (model prog w) A (call f vs) (CPost c X s σ Q) NoE s
end
section
variable {prog : Program} {w : World} {K : Frag}
theorem BoxRep.stay {h h' : Heap} {bad bad' : Addr → Prop} (k : Stay h bad h' bad') {a : Addr} (e : h'.get? a = h.get? a) : ∀ {b : Box}, BoxRep prog w h bad a b → BoxRep prog w h' bad' a b
  | .list l, ⟨vs, n, ho, r⟩ => ⟨vs, n, e.trans ho, Reps.stay k r⟩
  | .dict ks l, ⟨hsm, xs, ho, hx, hk, r⟩ => let ⟨a, b⟩ := dictOf_stay k e hx ho; ⟨hsm, xs, a, b, hk, Reps.stay k r⟩
  | .flds ns l, ⟨es, n, vs, ho, hf, r⟩ => ⟨es, n, vs, e.trans ho, hf, Reps.stay k r⟩
theorem BoxRep.live {h : Heap} {bad : Addr → Prop} {a : Addr} : ∀ {b : Box}, BoxRep prog w h bad a b → ∃ o, h.get? a = some o
  | .list _, ⟨_, _, ho, _⟩ => ⟨_, ho⟩
  | .dict _ _, ⟨_, _, ⟨o, _, _, ho, _⟩, _⟩ => ⟨o, ho⟩
  | .flds _ _, ⟨_, _, _, ho, _⟩ => ⟨_, ho⟩
theorem Sat.chg {G : Heap} {X C : Addr → Prop} {h h' : Heap} {σ : Sto} (S : Sat prog w G X h σ) (hk : ∀ a o, h.get? a = some o → ¬ C a → h'.get? a = some o) (hC : ∀ a, C a → X a) (hp : ∀ a, C a → ∃ o, h'.get? a = some o) : Sat prog w G X h' σ := by
  have st : Stay h (Bad X σ) h' (Bad X σ) := ⟨fun a o e hb => hk a o e fun z => hb (.inl (hC a z)), fun _ _ _ hb => hb⟩
  refine ⟨fun a o e => hk a o (S.gr a o e) fun z => ?_, fun a ha => ⟨(S.gx a ha).1, (S.gx a ha).2.1, ?_⟩, fun a b e => ⟨(S.gs a b e).1, ?_⟩⟩
  · have := (S.gx a (hC a z)).2.1; rw [e] at this; cases this
  · by_cases hc : C a
    · exact hp a hc
    · obtain ⟨o, ho⟩ := (S.gx a ha).2.2
      exact ⟨o, hk a o ho hc⟩
  · have r := (S.gs a b e).2
    obtain ⟨o, ho⟩ := r.live
    refine r.stay st ?_
    rw [ho]
    exact hk a o ho fun z => by have := (S.gx a (hC a z)).1; rw [e] at this; cases this
theorem stay_chg {X C : Addr → Prop} {h h' : Heap} {σ : Sto} (hk : ∀ a o, h.get? a = some o → ¬ C a → h'.get? a = some o) (hC : ∀ a, C a → X a) : Stay h (Bad X σ) h' (Bad X σ) :=
  ⟨fun a o e hb => hk a o e fun z => hb (.inl (hC a z)), fun _ _ _ hb => hb⟩
theorem Sat.ext {G : Heap} {X : Addr → Prop} {h h' : Heap} {σ : Sto} (S : Sat prog w G X h σ) (hk : h.StaysIn h') : Sat prog w G X h' σ :=
  S.chg (C := fun _ => False) (fun a o e _ => hk a o e) (fun _ z => z.elim) (fun _ z => z.elim)
theorem stay_ext {bad : Addr → Prop} {h h' : Heap} (hk : h.StaysIn h') : Stay h bad h' bad := ⟨fun a o e _ => hk a o e, fun _ _ _ hb => hb⟩
theorem step_ext {F : Addr → Prop} {s : Shared} {σ : Sto} {h' : Heap} {tk : Nat} (hk : s.heap.StaysIn h') : Step F s σ { s with heap := h', toks := tk } σ := ⟨⟨h', tk, rfl⟩, fun a o e _ _ => hk a o e, fun _ h1 h2 => absurd h2 h1⟩
theorem step_toks {F : Addr → Prop} {s : Shared} {σ : Sto} {tk : Nat} : Step F s σ { s with toks := tk } σ := ⟨⟨s.heap, tk, rfl⟩, fun _ _ e _ _ => e, fun _ h1 h2 => absurd h2 h1⟩
theorem step_chg {F C : Addr → Prop} {s : Shared} {σ : Sto} {h' : Heap} {tk : Nat} (hk : ∀ a o, s.heap.get? a = some o → ¬ C a → h'.get? a = some o) (hC : ∀ a, C a → F a) : Step F s σ { s with heap := h', toks := tk } σ :=
  ⟨⟨h', tk, rfl⟩, fun a o e _ hF => hk a o e fun z => hF (hC a z), fun _ h1 h2 => absurd h2 h1⟩
theorem push_stays (h : Heap) (o : Obj) : h.StaysIn (h.push o) := fun _ _ e => Heap.get?_push_of_some o e
theorem extBut_new {h h' : Heap} (e : Heap.ExtBut h.objs.size h h') : h.StaysIn h' := fun b o q => e b o (Nat.ne_of_lt (Heap.lt_size q)) q
theorem Sat.upd {G : Heap} {X : Addr → Prop} {h h' : Heap} {σ : Sto} {a : Addr} {b : Box} (S : Sat prog w G X h σ) (hk : ∀ x o, h.get? x = some o → x ≠ a → h'.get? x = some o) (hn : σ a ≠ none ∨ h.get? a = none)
    (r : BoxRep prog w h' (Bad X (σ.upd a b)) a b) : Sat prog w G X h' (σ.upd a b) := by
  have nX : ¬ X a := fun z => by
    rcases hn with hn | hn
    · exact hn (S.gx a z).1
    · obtain ⟨o, ho⟩ := (S.gx a z).2.2; rw [hn] at ho; cases ho
  have nG : G.get? a = none := by
    rcases hn with hn | hn
    · cases q : σ a with
      | none => exact absurd q hn
      | some b' => exact (S.gs a b' q).1
    · cases q : G.get? a with
      | none => rfl
      | some o => rw [S.gr a o q] at hn; cases hn
  have ne : ∀ x o, h.get? x = some o → ¬ Bad X σ x → x ≠ a := fun x o e hb z => by
    subst z
    rcases hn with hn | hn
    · exact hb (.inr hn)
    · rw [hn] at e; cases e
  have st : Stay h (Bad X σ) h' (Bad X (σ.upd a b)) := by
    refine ⟨fun x o e hb => hk x o e (ne x o e hb), fun x o e hb hb' => ?_⟩
    rcases hb' with z | z
    · exact hb (.inl z)
    · have : σ.upd a b x = σ x := if_neg (ne x o e hb)
      rw [this] at z
      exact hb (.inr z)
  refine ⟨fun x o e => hk x o (S.gr x o e) fun z => ?_, fun x hx => ⟨?_, (S.gx x hx).2.1, ?_⟩, fun x b' e => ?_⟩
  · subst z; rw [nG] at e; cases e
  · show (if x = a then some b else σ x) = none
    rw [if_neg fun z : x = a => nX (z ▸ hx)]; exact (S.gx x hx).1
  · obtain ⟨o, ho⟩ := (S.gx x hx).2.2
    exact ⟨o, hk x o ho fun z => nX (z ▸ hx)⟩
  · by_cases hx : x = a
    · subst hx
      have : σ.upd x b x = some b := if_pos rfl
      rw [this] at e
      cases e
      exact ⟨nG, r⟩
    · have : σ.upd a b x = σ x := if_neg hx
      rw [this] at e
      have q := S.gs x b' e
      obtain ⟨o, ho⟩ := q.2.live
      exact ⟨q.1, q.2.stay st (by rw [ho]; exact hk x o ho hx)⟩
theorem stay_upd {X : Addr → Prop} {h h' : Heap} {σ : Sto} {a : Addr} {b : Box} (hk : ∀ x o, h.get? x = some o → x ≠ a → h'.get? x = some o) (hn : σ a ≠ none ∨ h.get? a = none) : Stay h (Bad X σ) h' (Bad X (σ.upd a b)) := by
  have ne : ∀ x o, h.get? x = some o → ¬ Bad X σ x → x ≠ a := fun x o e hb z => by
    subst z
    rcases hn with hn | hn
    · exact hb (.inr hn)
    · rw [hn] at e; cases e
  refine ⟨fun x o e hb => hk x o e (ne x o e hb), fun x o e hb hb' => ?_⟩
  rcases hb' with z | z
  · exact hb (.inl z)
  · have : σ.upd a b x = σ x := if_neg (ne x o e hb)
    rw [this] at z
    exact hb (.inr z)
theorem step_upd {F : Addr → Prop} {s : Shared} {σ : Sto} {a : Addr} {b : Box} {h' : Heap} {tk : Nat} (hk : ∀ x o, s.heap.get? x = some o → x ≠ a → h'.get? x = some o) (hn : σ a ≠ none ∨ s.heap.get? a = none) : Step F s σ { s with heap := h', toks := tk } (σ.upd a b) := by
  refine ⟨⟨h', tk, rfl⟩, fun x o e hx _ => hk x o e fun z => ?_, fun x h1 h2 => ?_⟩
  · subst z
    rcases hn with hn | hn
    · exact hn hx
    · rw [hn] at e; cases e
  · by_cases hx : x = a
    · subst hx
      rcases hn with hn | hn
      · exact absurd h2 hn
      · exact hn
    · have : σ.upd a b x = σ x := if_neg hx
      rw [this] at h1; exact absurd h2 h1
noncomputable def Sub (σ' σ : Sto) : Prop := ∀ a b, σ' a = some b → σ a = some b
theorem Sub.refl (σ : Sto) : Sub σ σ := fun _ _ e => e
theorem sub_drop (σ : Sto) (a : Addr) : Sub (σ.drop a) σ := fun x b e => by
  by_cases hx : x = a
  · have : σ.drop a x = none := if_pos hx
    rw [this] at e; cases e
  · have : σ.drop a x = σ x := if_neg hx
    rw [this] at e; exact e
theorem bad_sub {X : Addr → Prop} {σ σ' : Sto} (hs : Sub σ' σ) {a : Addr} (h : Bad X σ' a) : Bad X σ a := by
  rcases h with h | h
  · exact .inl h
  · right
    cases q : σ' a with
    | none => exact absurd q h
    | some b => rw [hs a b q]; exact fun z => nomatch z
theorem stay_sub {X : Addr → Prop} {h : Heap} {σ σ' : Sto} (hs : Sub σ' σ) : Stay h (Bad X σ) h (Bad X σ') := ⟨fun _ _ e _ => e, fun _ _ _ hb hb' => hb (bad_sub hs hb')⟩
theorem Sat.sub {G : Heap} {X : Addr → Prop} {h : Heap} {σ σ' : Sto} (S : Sat prog w G X h σ) (hs : Sub σ' σ) : Sat prog w G X h σ' := by
  refine ⟨S.gr, fun a ha => ⟨?_, (S.gx a ha).2⟩, fun a b e => ⟨(S.gs a b (hs a b e)).1, (S.gs a b (hs a b e)).2.stay (stay_sub hs) rfl⟩⟩
  cases q : σ' a with
  | none => rfl
  | some b => have := (S.gx a ha).1; rw [hs a b q] at this; cases this
theorem Step.sub {F : Addr → Prop} {s s' : Shared} {σ σ' σ'' : Sto} (x : Step F s σ s' σ') (hs : Sub σ'' σ') : Step F s σ s' σ'' := by
  refine ⟨x.eq, x.keep, fun a h1 h2 => x.grow a ?_ h2⟩
  cases q : σ'' a with
  | none => exact absurd q h1
  | some b => rw [hs a b q]; exact fun z => nomatch z
theorem bad_less {X X' : Addr → Prop} (hX : ∀ a, X' a → X a) {σ : Sto} {a : Addr} (h : Bad X' σ a) : Bad X σ a := h.elim (fun z => .inl (hX a z)) .inr
theorem stay_less {X X' : Addr → Prop} (hX : ∀ a, X' a → X a) {h : Heap} {σ : Sto} : Stay h (Bad X σ) h (Bad X' σ) := ⟨fun _ _ e _ => e, fun _ _ _ hb hb' => hb (bad_less hX hb')⟩
theorem Sat.less {G : Heap} {X X' : Addr → Prop} {h : Heap} {σ : Sto} (S : Sat prog w G X h σ) (hX : ∀ a, X' a → X a) : Sat prog w G X' h σ :=
  ⟨S.gr, fun a ha => S.gx a (hX a ha), fun a b e => ⟨(S.gs a b e).1, (S.gs a b e).2.stay (stay_less hX) rfl⟩⟩
theorem stay_more {X Y : Addr → Prop} {h h' : Heap} {σ : Sto} (hk : h.StaysIn h') (hn : ∀ a, Y a → h.get? a = none) : Stay h (Bad X σ) h' (Bad (fun a => X a ∨ Y a) σ) := by
  refine ⟨fun a o e _ => hk a o e, fun a o e hb hb' => ?_⟩
  rcases hb' with (z | z) | z
  · exact hb (.inl z)
  · rw [hn a z] at e; cases e
  · exact hb (.inr z)
theorem Sat.more {G : Heap} {X Y : Addr → Prop} {h h' : Heap} {σ : Sto} (S : Sat prog w G X h σ) (hk : h.StaysIn h') (hn : ∀ a, Y a → h.get? a = none) (hl : ∀ a, Y a → ∃ o, h'.get? a = some o) : Sat prog w G (fun a => X a ∨ Y a) h' σ := by
  refine ⟨fun a o e => hk a o (S.gr a o e), fun a ha => ?_, fun a b e => ⟨(S.gs a b e).1, ?_⟩⟩
  · rcases ha with ha | ha
    · obtain ⟨o, ho⟩ := (S.gx a ha).2.2
      exact ⟨(S.gx a ha).1, (S.gx a ha).2.1, o, hk a o ho⟩
    · refine ⟨?_, ?_, hl a ha⟩
      · cases q : σ a with
        | none => rfl
        | some b => obtain ⟨o, ho⟩ := (S.gs a b q).2.live; rw [hn a ha] at ho; cases ho
      · cases q : G.get? a with
        | none => rfl
        | some o => have := S.gr a o q; rw [hn a ha] at this; cases this
  · have r := (S.gs a b e).2
    obtain ⟨o, ho⟩ := r.live
    exact r.stay (stay_more hk hn) (by rw [ho]; exact hk a o ho)
theorem LRep.stay {env : Env} {X : Addr → Prop} {h h' : Heap} {bad bad' : Addr → Prop} {ρ : List (Option PV)} (R : LRep prog w env X h bad ρ) (st : Stay h bad h' bad') (hx : ∀ a o, X a → h.get? a = some o → h'.get? a = some o) : LRep prog w env X h' bad' ρ := by
  obtain ⟨m, hm, hv⟩ := R.ns
  refine ⟨R.ok, ⟨m, hm.at' fun o e => hx _ o (R.ok.own _ (.inl rfl)) e, fun i x k pv hi hp => ?_⟩, fun x hx' => let ⟨a, h1, h2, v, o, h3, h4⟩ := R.cl x hx'; ⟨a, h1, h2, v, o, hx _ o h2 h3, h4⟩⟩
  obtain ⟨v, r, hh⟩ := hv i x k pv hi hp
  refine ⟨v, r.stay st, ?_⟩
  rcases hh with hh | ⟨hk, cc, h1, h2, o, h3, h4⟩
  · exact .inl hh
  · exact .inr ⟨hk, cc, h1, h2, o, hx _ o h2 h3, h4⟩
theorem LRep.ext {env : Env} {X : Addr → Prop} {h h' : Heap} {bad : Addr → Prop} {ρ : List (Option PV)} (R : LRep prog w env X h bad ρ) (hk : h.StaysIn h') : LRep prog w env X h' bad ρ := R.stay (stay_ext hk) fun a o _ e => hk a o e
theorem LRep.sub {env : Env} {X : Addr → Prop} {h : Heap} {σ σ' : Sto} {ρ : List (Option PV)} (R : LRep prog w env X h (Bad X σ) ρ) (hs : Sub σ' σ) : LRep prog w env X h (Bad X σ') ρ := R.stay (stay_sub hs) fun _ _ _ e => e
theorem LRep.step {env : Env} {X : Addr → Prop} {G : Heap} {s s' : Shared} {σ σ' : Sto} {ρ : List (Option PV)} (R : LRep prog w env X s.heap (Bad X σ) ρ) (S : Sat prog w G X s.heap σ) (x : Step NoF s σ s' σ') : LRep prog w env X s'.heap (Bad X σ') ρ :=
  R.stay (x.stay fun _ z => z.elim) fun a o ha e => x.keep a o e (S.gx a ha).1 fun z => z
theorem nof_own {env : Env} : ∀ a, NoF a → Own env a := fun _ z => z.elim
end
section
variable {prog : Program} {w : World} {K : Frag} {c : Cx prog w K} {n : Nat} {env : Env} {ρ : List (Option PV)} {σ : Sto}
theorem Ev.mono {e : PySem.Expr} {Q Q' : PV → Sto → Prop} (h : Ev c n env e ρ σ Q) (hq : ∀ p σ', Q p σ' → Q' p σ') : Ev c n env e ρ σ Q' := fun A X s r S R =>
  wpAny_mono (h A X s r S R) (fun v s' ⟨pv, σ', a, b, d, e, q⟩ => ⟨pv, σ', a, b, d, e, hq _ _ q⟩) fun _ _ x => x
theorem Te.mono {e : PySem.Expr} {Q Q' : Bool → Sto → Prop} (h : Te c n env e ρ σ Q) (hq : ∀ p σ', Q p σ' → Q' p σ') : Te c n env e ρ σ Q' := fun A X s r S R =>
  wpAny_mono (h A X s r S R) (fun v s' ⟨σ', b, d, e, q⟩ => ⟨σ', b, d, e, hq _ _ q⟩) fun _ _ x => x
theorem Ca.mono {f : Value} {l : List PV} {Q Q' : PV → Sto → Prop} (h : Ca c n f l σ Q) (hq : ∀ p σ', Q p σ' → Q' p σ') : Ca c n f l σ Q' := fun A X s vs r S R =>
  wpAny_mono (h A X s vs r S R) (fun v s' ⟨pv, σ', a, b, d, q⟩ => ⟨pv, σ', a, b, d, hq _ _ q⟩) fun _ _ x => x
theorem Xs.mono {ss : List Stmt} {Q Q' : FV → List (Option PV) → Sto → Prop} (h : Xs c n env ss ρ σ Q) (hq : ∀ f ρ' σ', Q f ρ' σ' → Q' f ρ' σ') : Xs c n env ss ρ σ Q' := fun A X s r S R =>
  wpAny_mono (h A X s r S R) (fun v s' ⟨f, ρ', σ', a, b, d, e, q⟩ => ⟨f, ρ', σ', a, b, d, e, hq _ _ _ q⟩) fun _ _ x => x
theorem Ex.mono {st : Stmt} {Q Q' : FV → List (Option PV) → Sto → Prop} (h : Ex c n env st ρ σ Q) (hq : ∀ f ρ' σ', Q f ρ' σ' → Q' f ρ' σ') : Ex c n env st ρ σ Q' := fun A X s r S R =>
  wpAny_mono (h A X s r S R) (fun v s' ⟨f, ρ', σ', a, b, d, e, q⟩ => ⟨f, ρ', σ', a, b, d, e, hq _ _ _ q⟩) fun _ _ x => x
noncomputable def De (c : Cx prog w K) (n : Nat) (env : Env) (ρ : List (Option PV)) (σ : Sto) (e : PySem.Expr) (pv : PV) : Prop := Ev c n env e ρ σ fun p σ' => p = pv ∧ σ' = σ
noncomputable def Dt (c : Cx prog w K) (n : Nat) (env : Env) (ρ : List (Option PV)) (σ : Sto) (e : PySem.Expr) (b : Bool) : Prop := Te c n env e ρ σ fun p σ' => p = b ∧ σ' = σ
noncomputable def Dc (c : Cx prog w K) (n : Nat) (f : Value) (l : List PV) (σ : Sto) (pv : PV) : Prop := Ca c n f l σ fun p σ' => p = pv ∧ σ' = σ
theorem De.ev {e : PySem.Expr} {pv : PV} {Q : PV → Sto → Prop} (h : De c n env ρ σ e pv) (q : Q pv σ) : Ev c n env e ρ σ Q := Ev.mono h fun p σ' ⟨a, b⟩ => by subst a; subst b; exact q
theorem Dc.ca {f : Value} {l : List PV} {pv : PV} {Q : PV → Sto → Prop} (h : Dc c n f l σ pv) (q : Q pv σ) : Ca c n f l σ Q := Ca.mono h fun p σ' ⟨a, b⟩ => by subst a; subst b; exact q
theorem EPost.after {X : Addr → Prop} {s₁ s₂ : Shared} {σ₁ σ₂ : Sto} {Q : PV → Sto → Prop} {v : Value} {s' : Shared} (x : Step (Own env) s₁ σ₁ s₂ σ₂) (S : Sat prog w c.G X s₂.heap σ₂) (ok : EnvOk env X) (h : EPost c env X ρ s₂ σ₂ Q v s') : EPost c env X ρ s₁ σ₁ Q v s' := by
  obtain ⟨pv, σ', a, b, d, e, q⟩ := h
  exact ⟨pv, σ', a, b, d, x.trans e S ok.own, q⟩
theorem TPost.after {X : Addr → Prop} {s₁ s₂ : Shared} {σ₁ σ₂ : Sto} {Q : Bool → Sto → Prop} {v : Bool} {s' : Shared} (x : Step (Own env) s₁ σ₁ s₂ σ₂) (S : Sat prog w c.G X s₂.heap σ₂) (ok : EnvOk env X) (h : TPost c env X ρ s₂ σ₂ Q v s') : TPost c env X ρ s₁ σ₁ Q v s' := by
  obtain ⟨σ', b, d, e, q⟩ := h
  exact ⟨σ', b, d, x.trans e S ok.own, q⟩
theorem LPost.after {X : Addr → Prop} {s₁ s₂ : Shared} {σ₁ σ₂ : Sto} {Q : List PV → Sto → Prop} {v : List Value} {s' : Shared} (x : Step (Own env) s₁ σ₁ s₂ σ₂) (S : Sat prog w c.G X s₂.heap σ₂) (ok : EnvOk env X) (h : LPost c env X ρ s₂ σ₂ Q v s') : LPost c env X ρ s₁ σ₁ Q v s' := by
  obtain ⟨pv, σ', a, b, d, e, q⟩ := h
  exact ⟨pv, σ', a, b, d, x.trans e S ok.own, q⟩
theorem SPost.after {X : Addr → Prop} {s₁ s₂ : Shared} {σ₁ σ₂ : Sto} {Q : FV → List (Option PV) → Sto → Prop} {v : Flow} {s' : Shared} (x : Step (Own env) s₁ σ₁ s₂ σ₂) (S : Sat prog w c.G X s₂.heap σ₂) (ok : EnvOk env X) (h : SPost c env X s₂ σ₂ Q v s') : SPost c env X s₁ σ₁ Q v s' := by
  obtain ⟨fv, ρ', σ', a, b, d, e, q⟩ := h
  exact ⟨fv, ρ', σ', a, b, d, x.trans e S ok.own, q⟩
theorem Ev.then {e : PySem.Expr} {Q : PV → Sto → Prop} {A : Around} {X : Addr → Prop} {s : Shared} {P : Value → Shared → Prop} (h : Ev c n env e ρ σ Q) (r : Room n A) (S : Sat prog w c.G X s.heap σ) (R : LRep prog w env X s.heap (Bad X σ) ρ)
    (k : ∀ v s' pv σ', Rep prog w s'.heap (Bad X σ') pv v → Sat prog w c.G X s'.heap σ' → LRep prog w env X s'.heap (Bad X σ') ρ → Step (Own env) s σ s' σ' → Q pv σ' → P v s') :
    wpAny (model prog w) A (eval e env) P NoE s :=
  wpAny_mono (h A X s r S R) (fun v s' ⟨pv, σ', a, b, d, e, q⟩ => k v s' pv σ' a b d e q) fun _ _ x => x
theorem Te.then {e : PySem.Expr} {Q : Bool → Sto → Prop} {A : Around} {X : Addr → Prop} {s : Shared} {P : Bool → Shared → Prop} (h : Te c n env e ρ σ Q) (r : Room n A) (S : Sat prog w c.G X s.heap σ) (R : LRep prog w env X s.heap (Bad X σ) ρ)
    (k : ∀ b s' σ', Sat prog w c.G X s'.heap σ' → LRep prog w env X s'.heap (Bad X σ') ρ → Step (Own env) s σ s' σ' → Q b σ' → P b s') :
    wpAny (model prog w) A (isTrue e env (eval e env)) P NoE s :=
  wpAny_mono (h A X s r S R) (fun v s' ⟨σ', b, d, e, q⟩ => k v s' σ' b d e q) fun _ _ x => x
theorem EPost.now {X : Addr → Prop} {s : Shared} {Q : PV → Sto → Prop} {v : Value} {pv : PV} {tk : Nat} (S : Sat prog w c.G X s.heap σ) (R : LRep prog w env X s.heap (Bad X σ) ρ) (h : Rep prog w s.heap (Bad X σ) pv v) (q : Q pv σ) : EPost c env X ρ s σ Q v { s with toks := tk } :=
  ⟨pv, σ, h, S, R, step_toks, q⟩
theorem EPost.same {X : Addr → Prop} {s : Shared} {Q : PV → Sto → Prop} {v : Value} {pv : PV} (S : Sat prog w c.G X s.heap σ) (R : LRep prog w env X s.heap (Bad X σ) ρ) (h : Rep prog w s.heap (Bad X σ) pv v) (q : Q pv σ) : EPost c env X ρ s σ Q v s :=
  ⟨pv, σ, h, S, R, Step.refl _ _ _, q⟩
theorem EPost.grown {X : Addr → Prop} {s : Shared} {Q : PV → Sto → Prop} {v : Value} {pv : PV} {tk : Nat} {h' : Heap} (S : Sat prog w c.G X s.heap σ) (R : LRep prog w env X s.heap (Bad X σ) ρ) (hk : s.heap.StaysIn h') (h : Rep prog w h' (Bad X σ) pv v) (q : Q pv σ) : EPost c env X ρ s σ Q v { s with heap := h', toks := tk } :=
  ⟨pv, σ, h, S.ext hk, R.ext hk, step_ext hk, q⟩
theorem Rep.int {h : Heap} {bad : Addr → Prop} {i : Int} {t : Tok} : Rep prog w h bad (.int i) (.int i t) := by simp only [Rep]; exact ⟨t, rfl⟩
theorem Rep.bool {h : Heap} {bad : Addr → Prop} {b : Bool} : Rep prog w h bad (.bool b) (.bool b) := by simp only [Rep]
theorem Rep.none {h : Heap} {bad : Addr → Prop} : Rep prog w h bad .none .none := by simp only [Rep]
theorem Rep.str {h : Heap} {bad : Addr → Prop} {x : Str} {t : Tok} : Rep prog w h bad (.str x) (.str x t) := by simp only [Rep]; exact ⟨t, rfl⟩
theorem Rep.at {h : Heap} {bad : Addr → Prop} {a : Addr} : Rep prog w h bad (.at a) (.ref a) := by simp only [Rep]
theorem Rep.int_inv {h : Heap} {bad : Addr → Prop} {i : Int} {v : Value} (r : Rep prog w h bad (.int i) v) : ∃ t, v = .int i t := by simpa only [Rep] using r
theorem Rep.bool_inv {h : Heap} {bad : Addr → Prop} {i : Bool} {v : Value} (r : Rep prog w h bad (.bool i) v) : v = .bool i := by simpa only [Rep] using r
theorem Rep.none_inv {h : Heap} {bad : Addr → Prop} {v : Value} (r : Rep prog w h bad .none v) : v = .none := by simpa only [Rep] using r
theorem Rep.str_inv {h : Heap} {bad : Addr → Prop} {i : Str} {v : Value} (r : Rep prog w h bad (.str i) v) : ∃ t, v = .str i t := by simpa only [Rep] using r
theorem Rep.at_inv {h : Heap} {bad : Addr → Prop} {a : Addr} {v : Value} (r : Rep prog w h bad (.at a) v) : v = .ref a := by simpa only [Rep] using r
theorem Rep.tup_inv {h : Heap} {bad : Addr → Prop} {l : List PV} {v : Value} (r : Rep prog w h bad (.tup l) v) : ∃ a vs, v = .ref a ∧ ¬ bad a ∧ h.IsTuple a vs.toArray ∧ Reps prog w h bad l vs := by simpa only [Rep] using r
theorem Rep.lst_inv {h : Heap} {bad : Addr → Prop} {l : List PV} {v : Value} (r : Rep prog w h bad (.lst l) v) : ∃ a vs n, v = .ref a ∧ ¬ bad a ∧ h.get? a = some (listOf vs.toArray n) ∧ Reps prog w h bad l vs := by simpa only [Rep] using r
theorem Rep.obj_inv {h : Heap} {bad : Addr → Prop} {C : Addr} {ns : List Str} {l : List PV} {v : Value} (r : Rep prog w h bad (.obj C ns l) v) :
    ∃ a d es n vs, v = .ref a ∧ ¬ bad a ∧ ¬ bad d ∧ h.get? a = some (instObj C d) ∧ h.get? d = some (dictOf es n) ∧ Flds w.params ns vs es ∧ Reps prog w h bad l vs := by simpa only [Rep] using r
theorem Rep.self_inv {h : Heap} {bad : Addr → Prop} {C d : Addr} {v : Value} (r : Rep prog w h bad (.self C d) v) : ∃ a, v = .ref a ∧ ¬ bad a ∧ h.get? a = some (instObj C d) := by simpa only [Rep] using r
theorem Rep.dct_inv {h : Heap} {bad : Addr → Prop} {ks : List (List Int)} {l : List PV} {v : Value} (r : Rep prog w h bad (.dct ks l) v) :
    ∃ a xs, v = .ref a ∧ ¬ bad a ∧ (a == sysModules) = false ∧ h.DictOfH (kd prog w) a xs ∧ (∀ x ∈ xs, ¬ bad x.2.1) ∧ xs.map (·.1) = ks ∧ Reps prog w h bad l (xs.map (·.2.2)) := by simpa only [Rep] using r
theorem De.num {i : Int} {k : Nat} {pos : Pos} : De c n env ρ σ (.Constant (.int i) k pos) (.int i) := fun A X s r S R => wpAny_Constant_int (EPost.now S R Rep.int ⟨rfl, rfl⟩)
theorem De.nothing {k : Nat} {pos : Pos} : De c n env ρ σ (.Constant .none k pos) .none := fun A X s r S R => wpAny_Constant_none (EPost.same S R Rep.none ⟨rfl, rfl⟩)
theorem De.text {x : Str} {k : Nat} {pos : Pos} : De c n env ρ σ (.Constant (.str x) k pos) (.str x) := fun A X s r S R => wpAny_Constant_str (EPost.now S R Rep.str ⟨rfl, rfl⟩)
theorem De.truth {b : Bool} {k : Nat} {pos : Pos} : De c n env ρ σ (.Constant (.bool b) k pos) (.bool b) := fun A X s r S R => wpAny_Constant_bool (EPost.same S R Rep.bool ⟨rfl, rfl⟩)
theorem lookup_nd : ∀ {l : List (Str × NameKind)} {i : Nat} {x : Str} {k : NameKind}, (l.map (·.1)).Nodup → l[i]? = some (x, k) → l.lookup x = some k
  | [], i, _, _, _, e => by simp at e
  | (y, q) :: r, 0, x, k, _, e => by
    simp only [List.getElem?_cons_zero, Option.some.injEq, Prod.mk.injEq] at e
    obtain ⟨rfl, rfl⟩ := e
    rw [List.lookup_cons]; simp
  | (y, q) :: r, i + 1, x, k, h, e => by
    simp only [List.getElem?_cons_succ] at e
    rw [List.map_cons, List.nodup_cons] at h
    have hm : x ∈ r.map (·.1) := List.mem_map.mpr ⟨(x, k), List.mem_of_getElem? e, rfl⟩
    have hne : (x == y) = false := by
      cases q : (x == y) with
      | false => rfl
      | true => rw [eq_of_beq q] at hm; exact absurd hm h.1
    rw [List.lookup_cons, hne]
    exact lookup_nd h.2 e
theorem LRep.kind {X : Addr → Prop} {h : Heap} {bad : Addr → Prop} (R : LRep prog w env X h bad ρ) {i : Nat} {x : Str} {k : NameKind} (hi : env.scope.names[i]? = some (x, k)) : env.kindOf x = some k := lookup_nd R.ok.nd hi
theorem De.name {i : Nat} {x : Str} {k : NameKind} {pv : PV} {pos : Pos} (hi : env.scope.names[i]? = some (x, k)) (hp : ρ[i]? = some (some pv)) (hd : (x == ("__debug__" : Str)) = false := by decide) (hc : (x == ("__classdict__" : Str)) = false := by decide) :
    De c n env ρ σ (.Name x pos) pv := fun A X s r S R => by
  obtain ⟨m, hm, hv⟩ := R.ns
  obtain ⟨v, rv, hh⟩ := hv i x k pv hi hp
  have hk := R.kind hi
  rcases hh with ⟨rfl, e⟩ | ⟨rfl | rfl, cc, h1, _, h3⟩
  · exact wpAny_Name (wpAny_loadName_local R.ok.fn hk hm e (EPost.same S R rv ⟨rfl, rfl⟩)) hd
  · exact wpAny_Name (wpAny_loadName_cell R.ok.fn hk h1 h3 (EPost.same S R rv ⟨rfl, rfl⟩)) hd
  · exact wpAny_Name (wpAny_loadName_free R.ok.fn hk h1 h3 (EPost.same S R rv ⟨rfl, rfl⟩) hc) hd
theorem name_glob {i : Nat} {x : Str} {pos : Pos} {v : Value} {A : Around} {X : Addr → Prop} {s : Shared} {Q : Value → Shared → Prop} (S : Sat prog w c.G X s.heap σ) (R : LRep prog w env X s.heap (Bad X σ) ρ) (hi : env.scope.names[i]? = some (x, .globalImplicit)) (e : nsIn K mainGlobals x = some (some v)) (hd : (x == ("__debug__" : Str)) = false)
    (q : Q v s) : wpAny (model prog w) A (eval (.Name x pos) env) Q NoE s :=
  Calls.Name_function_global R.ok.fn (R.kind hi) (Calls.loadGlobal_global (R.ok.gl ▸ c.T.g.keeps S.gr) (mg_of c.X c.T.g e) q) hd
theorem name_boot {i : Nat} {x : Str} {pos : Pos} {v : Value} {A : Around} {X : Addr → Prop} {s : Shared} {Q : Value → Shared → Prop} (S : Sat prog w c.G X s.heap σ) (R : LRep prog w env X s.heap (Bad X σ) ρ) (hi : env.scope.names[i]? = some (x, .globalImplicit)) (e : nsIn K mainGlobals x = some none) (hv : bootBuiltins x = some v) (hn : x ≠ "__name__") (hd : (x == ("__debug__" : Str)) = false)
    (q : Q v s) : wpAny (model prog w) A (eval (.Name x pos) env) Q NoE s :=
  Calls.Name_function_global R.ok.fn (R.kind hi) (Calls.loadGlobal_builtin (R.ok.gl ▸ c.T.g.keeps S.gr) (mg_none_of c.X c.T.g e) (R.ok.bi ▸ c.T.b.keeps S.gr) ((c.T.builtins x hn).trans hv) q) hd
theorem De.globNum {i : Nat} {x : Str} {pos : Pos} {j : Int} {t : Tok} (hi : env.scope.names[i]? = some (x, .globalImplicit)) (e : nsIn K mainGlobals x = some (some (.int j t))) (hd : (x == ("__debug__" : Str)) = false := by decide) : De c n env ρ σ (.Name x pos) (.int j) := fun A X s r S R =>
  name_glob S R hi e hd (EPost.same S R Rep.int ⟨rfl, rfl⟩)
theorem De.glob {i : Nat} {x : Str} {pos : Pos} {v : Value} {pv : PV} (hi : env.scope.names[i]? = some (x, .globalImplicit)) (e : nsIn K mainGlobals x = some (some v)) (hr : Rep prog w c.G (fun _ => False) pv v) (hd : (x == ("__debug__" : Str)) = false := by decide) : De c n env ρ σ (.Name x pos) pv := fun A X s r S R => by
  refine name_glob S R hi e hd (EPost.same S R (hr.stay ⟨fun a o e _ => S.gr a o e, fun a o e _ hb => ?_⟩) ⟨rfl, rfl⟩)
  rcases hb with z | z
  · have := (S.gx a z).2.1; rw [e] at this; cases this
  · cases q : σ a with
    | none => exact z q
    | some b => have := (S.gs a b q).1; rw [e] at this; cases this
end
section
variable {prog : Program} {w : World} {K : Frag} {c : Cx prog w K} {n : Nat} {env : Env} {ρ : List (Option PV)} {σ : Sto}
theorem two {l r : PySem.Expr} {p q : PV} {A : Around} {X : Addr → Prop} {s : Shared} {P : PV → Sto → Prop} {f : Value → Value → Sem Value} (hl : De c n env ρ σ l p) (hr : De c n env ρ σ r q)
    (rm : Room n A) (S : Sat prog w c.G X s.heap σ) (R : LRep prog w env X s.heap (Bad X σ) ρ)
    (k : ∀ v u s', Rep prog w s'.heap (Bad X σ) p v → Rep prog w s'.heap (Bad X σ) q u → Sat prog w c.G X s'.heap σ → LRep prog w env X s'.heap (Bad X σ) ρ → wpAny (model prog w) A (f v u) (EPost c env X ρ s' σ P) NoE s') :
    wpAny (model prog w) A (eval l env) (fun v s₁ => wpAny (model prog w) A (eval r env) (fun u s₂ => wpAny (model prog w) A (f v u) (EPost c env X ρ s σ P) NoE s₂) NoE s₁) NoE s := by
  refine Ev.then hl rm S R fun v s₁ pv σ₁ rv S₁ R₁ x₁ e => ?_
  obtain ⟨rfl, rfl⟩ := e
  refine Ev.then hr rm S₁ R₁ fun u s₂ pu σ₂ ru S₂ R₂ x₂ e => ?_
  obtain ⟨rfl, rfl⟩ := e
  exact wpAny_mono (k v u s₂ (rv.stay (x₂.stay R.ok.own)) ru S₂ R₂) (fun _ _ h => h.after (x₁.trans x₂ S₁ R.ok.own) S₂ R.ok) fun _ _ x => x
theorem De.add {l r : PySem.Expr} {pos : Pos} {i j : Int} (hl : De c n env ρ σ l (.int i)) (hr : De c n env ρ σ r (.int j)) : De c n env ρ σ (.BinOp l .Add r pos) (.int (i + j)) := fun A X s rm S R =>
  wpAny_BinOp (two hl hr rm S R fun v u s' rv ru S' R' => by
    obtain ⟨t, rfl⟩ := rv.int_inv
    obtain ⟨t', rfl⟩ := ru.int_inv
    exact add_int (EPost.now S' R' Rep.int ⟨rfl, rfl⟩))
theorem De.sub {l r : PySem.Expr} {pos : Pos} {i j : Int} (hl : De c n env ρ σ l (.int i)) (hr : De c n env ρ σ r (.int j)) : De c n env ρ σ (.BinOp l .Sub r pos) (.int (i - j)) := fun A X s rm S R =>
  wpAny_BinOp (two hl hr rm S R fun v u s' rv ru S' R' => by
    obtain ⟨t, rfl⟩ := rv.int_inv
    obtain ⟨t', rfl⟩ := ru.int_inv
    exact sub_int (EPost.now S' R' Rep.int ⟨rfl, rfl⟩))
theorem De.mul {l r : PySem.Expr} {pos : Pos} {i j : Int} (hl : De c n env ρ σ l (.int i)) (hr : De c n env ρ σ r (.int j)) (ok : IntMulOk i j) : De c n env ρ σ (.BinOp l .Mult r pos) (.int (i * j)) := fun A X s rm S R =>
  wpAny_BinOp (two hl hr rm S R fun v u s' rv ru S' R' => by
    obtain ⟨t, rfl⟩ := rv.int_inv
    obtain ⟨t', rfl⟩ := ru.int_inv
    exact mul_int (EPost.now S' R' Rep.int ⟨rfl, rfl⟩) ok)
theorem De.fdiv {l r : PySem.Expr} {pos : Pos} {i j : Int} (hl : De c n env ρ σ l (.int i)) (hr : De c n env ρ σ r (.int j)) (h0 : j ≠ 0) (ok : Builtin.divisionGoesByPylong i j = false) : De c n env ρ σ (.BinOp l .FloorDiv r pos) (.int (i.fdiv j)) := fun A X s rm S R =>
  wpAny_BinOp (two hl hr rm S R fun v u s' rv ru S' R' => by
    obtain ⟨t, rfl⟩ := rv.int_inv
    obtain ⟨t', rfl⟩ := ru.int_inv
    exact floordiv_int h0 (EPost.now S' R' Rep.int ⟨rfl, rfl⟩) (.inl ok))
theorem De.fmod {l r : PySem.Expr} {pos : Pos} {i j : Int} (hl : De c n env ρ σ l (.int i)) (hr : De c n env ρ σ r (.int j)) (h0 : j ≠ 0) : De c n env ρ σ (.BinOp l .Mod r pos) (.int (i.fmod j)) := fun A X s rm S R =>
  wpAny_BinOp (two hl hr rm S R fun v u s' rv ru S' R' => by
    obtain ⟨t, rfl⟩ := rv.int_inv
    obtain ⟨t', rfl⟩ := ru.int_inv
    exact mod_int h0 (EPost.now S' R' Rep.int ⟨rfl, rfl⟩))
theorem De.pow {l r : PySem.Expr} {pos : Pos} {i j : Int} (hl : De c n env ρ σ l (.int i)) (hr : De c n env ρ σ r (.int j)) (h0 : 0 ≤ j) (h1 : j ≤ 1000000) (h2 : i.natAbs < 2 ^ 64) : De c n env ρ σ (.BinOp l .Pow r pos) (.int (i ^ j.toNat)) := fun A X s rm S R =>
  wpAny_BinOp (two hl hr rm S R fun v u s' rv ru S' R' => by
    obtain ⟨t, rfl⟩ := rv.int_inv
    obtain ⟨t', rfl⟩ := ru.int_inv
    exact pow_int_small h0 h1 h2 (EPost.now S' R' Rep.int ⟨rfl, rfl⟩))
theorem De.neg {e : PySem.Expr} {pos : Pos} {i : Int} (h : De c n env ρ σ e (.int i)) : De c n env ρ σ (.UnaryOp .USub e pos) (.int (-i)) := fun A X s rm S R => by
  refine wpAny_UnaryOp (Ev.then h rm S R fun v s₁ pv σ₁ rv S₁ R₁ x₁ e => ?_)
  obtain ⟨rfl, rfl⟩ := e
  obtain ⟨t, rfl⟩ := rv.int_inv
  exact neg_int ((EPost.now S₁ R₁ Rep.int ⟨rfl, rfl⟩).after x₁ S₁ R.ok)
theorem abs_sub {a b : Int} {m n k : Nat} (ha : a.natAbs < m) (hb : b.natAbs < n) (h : m + n ≤ k := by decide) : (a - b).natAbs < k :=
  Nat.lt_of_le_of_lt (Int.natAbs_sub_le a b) (Nat.lt_of_lt_of_le (Nat.add_lt_add ha hb) h)
theorem abs_add {a b : Int} {m n k : Nat} (ha : a.natAbs < m) (hb : b.natAbs < n) (h : m + n ≤ k := by decide) : (a + b).natAbs < k :=
  Nat.lt_of_le_of_lt (Int.natAbs_add_le a b) (Nat.lt_of_lt_of_le (Nat.add_lt_add ha hb) h)
theorem small100 {a : Int} (h0 : 0 < a) (h1 : a ≤ 100) : a.natAbs < 2 ^ 64 := by omega
theorem abs_lt {a : Int} {m k : Nat} (ha : a.natAbs < m) (h : m ≤ k := by decide) : a.natAbs < k := Nat.lt_of_lt_of_le ha h
theorem smallMul {i j : Int} (h : j.natAbs < 2 ^ 64) : IntMulOk i j := by
  refine IntMulOk.of_right ?_
  rcases Int.le_total 0 j with h1 | h1
  · exact intBits_le_64 (by omega) (by omega)
  · exact intBits_le_64 (by omega) (by omega)
theorem smallMul' {i j : Int} (h : i.natAbs < 2 ^ 64) : IntMulOk i j := by
  refine IntMulOk.of_left ?_
  rcases Int.le_total 0 i with h1 | h1
  · exact intBits_le_64 (by (first | lia | omega)) (by (first | lia | omega))
  · exact intBits_le_64 (by (first | lia | omega)) (by (first | lia | omega))
theorem smallDiv {i j : Int} (h : j.natAbs < 2 ^ 64) : Builtin.divisionGoesByPylong i j = false := by
  unfold Builtin.divisionGoesByPylong
  dsimp only
  have : (if (j == 0) = true then 0 else j.natAbs.log2 / 30 + 1) ≤ 300 := by
    split
    · (first | lia | omega)
    · have h2 : j.natAbs.log2 < 64 := by
        by_cases hz : j.natAbs = 0
        · rw [hz]; decide
        · exact (Nat.log2_lt hz).mpr h
      (first | lia | omega)
  simp only [Bool.and_eq_false_iff, decide_eq_false_iff_not]
  left; (first | lia | omega)
noncomputable def cmpI : CmpOp → Int → Int → Bool
  | .Lt, a, b => decide (a < b)
  | .LtE, a, b => decide (a ≤ b)
  | .Gt, a, b => decide (b < a)
  | .GtE, a, b => decide (b ≤ a)
  | .Eq, a, b => a == b
  | .NotEq, a, b => a != b
  | _, _, _ => false
noncomputable def cmpOk : CmpOp → Bool
  | .Lt | .LtE | .Gt | .GtE | .Eq | .NotEq => true
  | _ => false
theorem cmp_int {op : CmpOp} {a b : Int} {t u : Tok} {A : Around} {s : Shared} {Q : Value → Shared → Prop} {E : Value → Shared → Prop} (ho : cmpOk op = true) (h : Q (.bool (cmpI op a b)) s) : wpAny (model prog w) A (compareOp op (.int a t) (.int b u)) Q E s :=
  match op, ho, h with
  | .Lt, _, h => lt_int h
  | .LtE, _, h => le_int h
  | .Gt, _, h => gt_int h
  | .GtE, _, h => ge_int h
  | .Eq, _, h => eq_int h
  | .NotEq, _, h => ne_int h
  | .Is, ho, _ => nomatch ho
  | .IsNot, ho, _ => nomatch ho
  | .In, ho, _ => nomatch ho
  | .NotIn, ho, _ => nomatch ho
theorem De.cmp {l r : PySem.Expr} {op : CmpOp} {pos : Pos} {i j : Int} (hl : De c n env ρ σ l (.int i)) (hr : De c n env ρ σ r (.int j)) (ho : cmpOk op = true := by rfl) (hb : behindInMarks op r = false := by rfl) : De c n env ρ σ (.Compare l [op] [r] pos) (.bool (cmpI op i j)) := fun A X s rm S R =>
  wpAny_Compare1 (two hl hr rm S R fun v u s' rv ru S' R' => by
    obtain ⟨t, rfl⟩ := rv.int_inv
    obtain ⟨t', rfl⟩ := ru.int_inv
    exact cmp_int ho (EPost.same S' R' Rep.bool ⟨rfl, rfl⟩)) hb
theorem Dt.val {e : PySem.Expr} {b : Bool} (h : De c n env ρ σ e (.bool b)) (hw : isTrue e env (eval e env) = (do let v ← eval e env; standAt e.pos; holding [v] (truthy v)) := by rfl) : Dt c n env ρ σ e b := fun A X s rm S R => by
  refine wpAny_isTrue_value (Ev.then h rm S R fun v s₁ pv σ₁ rv S₁ R₁ x₁ e => ?_) hw
  obtain ⟨rfl, rfl⟩ := e
  have := rv.bool_inv
  subst this
  exact wpAny_truthy_bool ⟨_, S₁, R₁, x₁, rfl, rfl⟩
theorem Dt.cmp {l r : PySem.Expr} {op : CmpOp} {pos : Pos} {i j : Int} (hl : De c n env ρ σ l (.int i)) (hr : De c n env ρ σ r (.int j)) (ho : cmpOk op = true := by rfl) (hb : behindInMarks op r = false := by rfl) : Dt c n env ρ σ (.Compare l [op] [r] pos) (cmpI op i j) := fun A X s rm S R => by
  refine wpAny_isTrue_Compare1 (Ev.then hl rm S R fun v s₁ pv σ₁ rv S₁ R₁ x₁ e => ?_) hb
  obtain ⟨rfl, rfl⟩ := e
  refine Ev.then hr rm S₁ R₁ fun u s₂ pu σ₂ ru S₂ R₂ x₂ e => ?_
  obtain ⟨rfl, rfl⟩ := e
  obtain ⟨t, rfl⟩ := rv.int_inv
  obtain ⟨t', rfl⟩ := ru.int_inv
  exact cmp_int ho (wpAny_truthy_bool ⟨_, S₂, R₂, x₁.trans x₂ S₁ R.ok.own, rfl, rfl⟩)
theorem Dt.not {e : PySem.Expr} {pos : Pos} {b : Bool} (h : Dt c n env ρ σ e b) : Dt c n env ρ σ (.UnaryOp .Not e pos) (!b) := fun A X s rm S R =>
  wpAny_isTrue_Not (wpAny_mono (h A X s rm S R) (fun b' s' ⟨σ', a, d, x, e1, e2⟩ => ⟨σ', a, d, x, by rw [e1], e2⟩) fun _ _ x => x)
theorem Dt.or2 {x y : PySem.Expr} {pos : Pos} {a b : Bool} (hx : Dt c n env ρ σ x a) (hy : a = false → Dt c n env ρ σ y b) : Dt c n env ρ σ (.BoolOp .Or [x, y] pos) (a || b) := fun A X s rm S R => by
  refine wpAny_isTrue_BoolOp (wpAny_allTrue_Or_cons (Te.then hx rm S R fun b' s₁ σ₁ S₁ R₁ x₁ e => ?_))
  obtain ⟨rfl, rfl⟩ := e
  cases b' with
  | true => exact ⟨_, S₁, R₁, x₁, rfl, rfl⟩
  | false =>
    refine wpAny_allTrue_Or_cons (Te.then (hy rfl) rm S₁ R₁ fun b'' s₂ σ₂ S₂ R₂ x₂ e => ?_)
    obtain ⟨rfl, rfl⟩ := e
    cases b'' with
    | true => exact ⟨_, S₂, R₂, x₁.trans x₂ S₁ R.ok.own, rfl, rfl⟩
    | false => exact wpAny_allTrue_Or_nil ⟨_, S₂, R₂, x₁.trans x₂ S₁ R.ok.own, rfl, rfl⟩
theorem Dt.or3 {x y z : PySem.Expr} {pos : Pos} {a b d : Bool} (hx : Dt c n env ρ σ x a) (hy : a = false → Dt c n env ρ σ y b) (hz : a = false → b = false → Dt c n env ρ σ z d) : Dt c n env ρ σ (.BoolOp .Or [x, y, z] pos) (a || (b || d)) := fun A X s rm S R => by
  refine wpAny_isTrue_BoolOp (wpAny_allTrue_Or_cons (Te.then hx rm S R fun b' s₁ σ₁ S₁ R₁ x₁ e => ?_))
  obtain ⟨rfl, rfl⟩ := e
  cases b' with
  | true => exact ⟨_, S₁, R₁, x₁, rfl, rfl⟩
  | false =>
    refine wpAny_allTrue_Or_cons (Te.then (hy rfl) rm S₁ R₁ fun b'' s₂ σ₂ S₂ R₂ x₂ e => ?_)
    obtain ⟨rfl, rfl⟩ := e
    cases b'' with
    | true => exact ⟨_, S₂, R₂, x₁.trans x₂ S₁ R.ok.own, rfl, rfl⟩
    | false =>
      have x₁₂ := x₁.trans x₂ S₁ R.ok.own
      refine wpAny_allTrue_Or_cons (Te.then (hz rfl rfl) rm S₂ R₂ fun b3 s₃ σ₃ S₃ R₃ x₃ e => ?_)
      obtain ⟨rfl, rfl⟩ := e
      cases b3 with
      | true => exact ⟨_, S₃, R₃, x₁₂.trans x₃ S₂ R.ok.own, rfl, rfl⟩
      | false => exact wpAny_allTrue_Or_nil ⟨_, S₃, R₃, x₁₂.trans x₃ S₂ R.ok.own, rfl, rfl⟩
theorem Dt.and2 {x y : PySem.Expr} {pos : Pos} {a b : Bool} (hx : Dt c n env ρ σ x a) (hy : a = true → Dt c n env ρ σ y b) : Dt c n env ρ σ (.BoolOp .And [x, y] pos) (a && b) := fun A X s rm S R => by
  refine wpAny_isTrue_BoolOp (wpAny_allTrue_And_cons (Te.then hx rm S R fun b' s₁ σ₁ S₁ R₁ x₁ e => ?_))
  obtain ⟨rfl, rfl⟩ := e
  cases b' with
  | false => exact ⟨_, S₁, R₁, x₁, rfl, rfl⟩
  | true =>
    refine wpAny_allTrue_And_cons (Te.then (hy rfl) rm S₁ R₁ fun b'' s₂ σ₂ S₂ R₂ x₂ e => ?_)
    obtain ⟨rfl, rfl⟩ := e
    cases b'' with
    | false => exact ⟨_, S₂, R₂, x₁.trans x₂ S₁ R.ok.own, rfl, rfl⟩
    | true => exact wpAny_allTrue_And_nil ⟨_, S₂, R₂, x₁.trans x₂ S₁ R.ok.own, rfl, rfl⟩
theorem De.or2 {x y : PySem.Expr} {pos : Pos} {a b : Bool} (hx : De c n env ρ σ x (.bool a)) (hy : a = false → De c n env ρ σ y (.bool b)) : De c n env ρ σ (.BoolOp .Or [x, y] pos) (.bool (a || b)) := fun A X s rm S R => by
  refine wpAny_Or2 (Ev.then hx rm S R fun v s₁ pv σ₁ rv S₁ R₁ x₁ e => ?_)
  obtain ⟨rfl, rfl⟩ := e
  have := rv.bool_inv; subst this
  refine wpAny_truthy_bool ?_
  cases a with
  | true => exact ⟨_, _, Rep.bool, S₁, R₁, x₁, rfl, rfl⟩
  | false => exact wpAny_mono (hy rfl A X s₁ rm S₁ R₁) (fun _ _ h => (by simpa using h.after x₁ S₁ R.ok)) fun _ _ x => x
theorem De.and2 {x y : PySem.Expr} {pos : Pos} {a b : Bool} (hx : De c n env ρ σ x (.bool a)) (hy : a = true → De c n env ρ σ y (.bool b)) : De c n env ρ σ (.BoolOp .And [x, y] pos) (.bool (a && b)) := fun A X s rm S R => by
  refine wpAny_And2 (Ev.then hx rm S R fun v s₁ pv σ₁ rv S₁ R₁ x₁ e => ?_)
  obtain ⟨rfl, rfl⟩ := e
  have := rv.bool_inv; subst this
  refine wpAny_truthy_bool ?_
  cases a with
  | false => exact ⟨_, _, Rep.bool, S₁, R₁, x₁, rfl, rfl⟩
  | true => exact wpAny_mono (hy rfl A X s₁ rm S₁ R₁) (fun _ _ h => (by simpa using h.after x₁ S₁ R.ok)) fun _ _ x => x
theorem Ev.ifexp {t x y : PySem.Expr} {pos : Pos} {b : Bool} {Q : PV → Sto → Prop} (ht : Dt c n env ρ σ t b) (hx : b = true → Ev c n env x ρ σ Q) (hy : b = false → Ev c n env y ρ σ Q) : Ev c n env (.IfExp t x y pos) ρ σ Q := fun A X s rm S R => by
  refine wpAny_IfExp (Te.then ht rm S R fun b' s₁ σ₁ S₁ R₁ x₁ e => ?_)
  obtain ⟨rfl, rfl⟩ := e
  cases b' with
  | true => exact wpAny_mono (hx rfl A X s₁ rm S₁ R₁) (fun _ _ h => h.after x₁ S₁ R.ok) fun _ _ x => x
  | false => exact wpAny_mono (hy rfl A X s₁ rm S₁ R₁) (fun _ _ h => h.after x₁ S₁ R.ok) fun _ _ x => x
theorem De.ifexp {t x y : PySem.Expr} {pos : Pos} {b : Bool} {p q : PV} (ht : Dt c n env ρ σ t b) (hx : b = true → De c n env ρ σ x p) (hy : b = false → De c n env ρ σ y q) : De c n env ρ σ (.IfExp t x y pos) (if b = true then p else q) :=
  Ev.ifexp ht (fun e => Ev.mono (hx e) fun p' σ' ⟨a, b'⟩ => ⟨by rw [if_pos e]; exact a, b'⟩) (fun e => Ev.mono (hy e) fun p' σ' ⟨a, b'⟩ => ⟨by rw [if_neg (by rw [e]; exact Bool.false_ne_true)]; exact a, b'⟩)
noncomputable def PV.isNone : PV → Bool
  | .none => true
  | _ => false
theorem Rep.isNone {h : Heap} {bad : Addr → Prop} {p : PV} {v : Value} (r : Rep prog w h bad p v) : (v == .none) = p.isNone := by
  cases p with
  | none => rw [r.none_inv]; rfl
  | bool b => rw [r.bool_inv]; rfl
  | int i => obtain ⟨t, rfl⟩ := r.int_inv; rfl
  | str i => obtain ⟨t, rfl⟩ := r.str_inv; rfl
  | «at» a => rw [r.at_inv]; rfl
  | self C d => obtain ⟨a, rfl, _⟩ := r.self_inv; rfl
  | tup l => obtain ⟨a, _, rfl, _⟩ := r.tup_inv; rfl
  | lst l => obtain ⟨a, _, _, rfl, _⟩ := r.lst_inv; rfl
  | obj C ns l => obtain ⟨a, _, _, _, _, rfl, _⟩ := r.obj_inv; rfl
  | dct ks l => obtain ⟨a, _, rfl, _⟩ := r.dct_inv; rfl
theorem Dt.isNone {l : PySem.Expr} {k : Nat} {pos pos' : Pos} {p : PV} (hl : De c n env ρ σ l p) : Dt c n env ρ σ (.Compare l [.Is] [.Constant .none k pos] pos') p.isNone := fun A X s rm S R => by
  refine wpAny_isTrue_Compare1 (Ev.then hl rm S R fun v s₁ pv σ₁ rv S₁ R₁ x₁ e => ?_) rfl
  obtain ⟨rfl, rfl⟩ := e
  refine wpAny_Constant_none (is_none_gen ?_)
  rw [rv.isNone]
  exact wpAny_truthy_bool ⟨_, S₁, R₁, x₁, rfl, rfl⟩
theorem Dt.isNotNone {l : PySem.Expr} {k : Nat} {pos pos' : Pos} {p : PV} (hl : De c n env ρ σ l p) : Dt c n env ρ σ (.Compare l [.IsNot] [.Constant .none k pos] pos') (!p.isNone) := fun A X s rm S R => by
  refine wpAny_isTrue_Compare1 (Ev.then hl rm S R fun v s₁ pv σ₁ rv S₁ R₁ x₁ e => ?_) rfl
  obtain ⟨rfl, rfl⟩ := e
  refine wpAny_Constant_none (isnot_none_gen ?_)
  rw [rv.isNone]
  exact wpAny_truthy_bool ⟨_, S₁, R₁, x₁, rfl, rfl⟩
theorem Dt.eqStr {l r : PySem.Expr} {pos : Pos} {x y : Str} (hl : De c n env ρ σ l (.str x)) (hr : De c n env ρ σ r (.str y)) (hb : behindInMarks .Eq r = false := by rfl) : Dt c n env ρ σ (.Compare l [.Eq] [r] pos) (x == y) := fun A X s rm S R => by
  refine wpAny_isTrue_Compare1 (Ev.then hl rm S R fun v s₁ pv σ₁ rv S₁ R₁ x₁ e => ?_) hb
  obtain ⟨rfl, rfl⟩ := e
  refine Ev.then hr rm S₁ R₁ fun u s₂ pu σ₂ ru S₂ R₂ x₂ e => ?_
  obtain ⟨rfl, rfl⟩ := e
  obtain ⟨t, rfl⟩ := rv.str_inv
  obtain ⟨t', rfl⟩ := ru.str_inv
  exact eq_str (wpAny_truthy_bool ⟨_, S₂, R₂, x₁.trans x₂ S₁ R.ok.own, rfl, rfl⟩)
theorem De.cmp2 {l r r' : PySem.Expr} {op op' : CmpOp} {pos : Pos} {i j k : Int} (hl : De c n env ρ σ l (.int i)) (hr : De c n env ρ σ r (.int j)) (hr' : De c n env ρ σ r' (.int k)) (ho : cmpOk op = true := by rfl) (ho' : cmpOk op' = true := by rfl) (hm : lastMarks [op, op'] [r, r'] = false := by with_unfolding_all rfl) :
    De c n env ρ σ (.Compare l [op, op'] [r, r'] pos) (.bool (cmpI op i j && cmpI op' j k)) := fun A X s rm S R => by
  refine Compare_chain (Ev.then hl rm S R fun v s₁ pv σ₁ rv S₁ R₁ x₁ e => ?_) hm
  obtain ⟨rfl, rfl⟩ := e
  refine chain_link (Ev.then hr rm S₁ R₁ fun u s₂ pu σ₂ ru S₂ R₂ x₂ e => ?_)
  obtain ⟨rfl, rfl⟩ := e
  obtain ⟨t, rfl⟩ := rv.int_inv
  obtain ⟨t', rfl⟩ := ru.int_inv
  have x₁₂ := x₁.trans x₂ S₁ R.ok.own
  refine cmp_int ho (wpAny_truthy_bool ?_)
  by_cases q : cmpI op i j = true
  · rw [if_pos q, q]
    refine chain_last (Ev.then hr' rm S₂ R₂ fun z s₃ pz σ₃ rz S₃ R₃ x₃ e => ?_)
    obtain ⟨rfl, rfl⟩ := e
    obtain ⟨t'', rfl⟩ := rz.int_inv
    exact cmp_int ho' ⟨_, _, Rep.bool, S₃, R₃, x₁₂.trans x₃ S₂ R.ok.own, by simp, rfl⟩
  · rw [if_neg q]
    have q' : cmpI op i j = false := by simpa using q
    exact ⟨_, _, Rep.bool, S₂, R₂, x₁₂, by rw [q']; rfl, rfl⟩
theorem Dt.cmp2 {l r r' : PySem.Expr} {op op' : CmpOp} {pos : Pos} {i j k : Int} (hl : De c n env ρ σ l (.int i)) (hr : De c n env ρ σ r (.int j)) (hr' : De c n env ρ σ r' (.int k)) (ho : cmpOk op = true := by rfl) (ho' : cmpOk op' = true := by rfl) (hm : lastMarks [op, op'] [r, r'] = false := by with_unfolding_all rfl) :
    Dt c n env ρ σ (.Compare l [op, op'] [r, r'] pos) (cmpI op i j && cmpI op' j k) := fun A X s rm S R => by
  refine isTrue_chain (Ev.then hl rm S R fun v s₁ pv σ₁ rv S₁ R₁ x₁ e => ?_) hm
  obtain ⟨rfl, rfl⟩ := e
  refine test_link (Ev.then hr rm S₁ R₁ fun u s₂ pu σ₂ ru S₂ R₂ x₂ e => ?_)
  obtain ⟨rfl, rfl⟩ := e
  obtain ⟨t, rfl⟩ := rv.int_inv
  obtain ⟨t', rfl⟩ := ru.int_inv
  have x₁₂ := x₁.trans x₂ S₁ R.ok.own
  refine cmp_int ho (wpAny_truthy_bool ?_)
  by_cases q : cmpI op i j = true
  · rw [if_pos q, q]
    refine test_last (Ev.then hr' rm S₂ R₂ fun z s₃ pz σ₃ rz S₃ R₃ x₃ e => ?_)
    obtain ⟨rfl, rfl⟩ := e
    obtain ⟨t'', rfl⟩ := rz.int_inv
    exact cmp_int ho' (wpAny_truthy_bool ⟨_, S₃, R₃, x₁₂.trans x₃ S₂ R.ok.own, by simp, rfl⟩)
  · rw [if_neg q]
    have q' : cmpI op i j = false := by simpa using q
    exact ⟨_, S₂, R₂, x₁₂, by rw [q']; rfl, rfl⟩
end
section
variable {prog : Program} {w : World} {K : Frag} {c : Cx prog w K} {n : Nat} {env : Env} {ρ : List (Option PV)} {σ : Sto}
theorem Es.nil {Q : List PV → Sto → Prop} (q : Q [] σ) : Es c n env [] ρ σ Q := fun A X s pos rm S R => Calls.spliced_nil ⟨[], σ, Reps.nil, S, R, Step.refl _ _ _, q⟩
theorem Es.cons {e : PySem.Expr} {es : List PySem.Expr} {Q : List PV → Sto → Prop} (h : Ev c n env e ρ σ fun p σ₁ => Es c n env es ρ σ₁ fun l σ₂ => Q (p :: l) σ₂)
    (he : starEach (e :: es) env = (false, eval e env) :: starEach es env := by rfl) : Es c n env (e :: es) ρ σ Q := fun A X s pos rm S R => by
  rw [he]
  refine Calls.spliced_cons (Ev.then h rm S R fun v s₁ p σ₁ rv S₁ R₁ x₁ q => ?_)
  refine wpAny_mono (q A X s₁ pos rm S₁ R₁) (fun vs s₂ ⟨l, σ₂, rl, S₂, R₂, x₂, q₂⟩ => ?_) fun _ _ x => x
  exact ⟨p :: l, σ₂, Reps.cons (rv.stay (x₂.stay R.ok.own)) rl, S₂, R₂, x₁.trans x₂ S₁ R.ok.own, q₂⟩
noncomputable def Ds (c : Cx prog w K) (n : Nat) (env : Env) (ρ : List (Option PV)) (σ : Sto) (es : List PySem.Expr) (l : List PV) : Prop := Es c n env es ρ σ fun l' σ' => l' = l ∧ σ' = σ
theorem Ds.nil : Ds c n env ρ σ [] [] := Es.nil ⟨rfl, rfl⟩
theorem Es.mono {es : List PySem.Expr} {Q Q' : List PV → Sto → Prop} (h : Es c n env es ρ σ Q) (hq : ∀ p σ', Q p σ' → Q' p σ') : Es c n env es ρ σ Q' := fun A X s pos r S R =>
  wpAny_mono (h A X s pos r S R) (fun v s' ⟨pv, σ', a, b, d, e, q⟩ => ⟨pv, σ', a, b, d, e, hq _ _ q⟩) fun _ _ x => x
theorem Ds.cons {e : PySem.Expr} {es : List PySem.Expr} {p : PV} {l : List PV} (h : De c n env ρ σ e p) (t : Ds c n env ρ σ es l) (he : starEach (e :: es) env = (false, eval e env) :: starEach es env := by rfl) : Ds c n env ρ σ (e :: es) (p :: l) :=
  Es.cons (h.ev (Es.mono t fun l' σ' ⟨a, b⟩ => ⟨by rw [a], b⟩)) he
theorem Ds.es {es : List PySem.Expr} {l : List PV} {Q : List PV → Sto → Prop} (h : Ds c n env ρ σ es l) (q : Q l σ) : Es c n env es ρ σ Q := Es.mono h fun p σ' ⟨a, b⟩ => by subst a; subst b; exact q
theorem De.tuple {es : List PySem.Expr} {k : Nat} {pos : Pos} {l : List PV} (h : Ds c n env ρ σ es l) (hz : l.length ≤ 1000 := by decide) : De c n env ρ σ (.Tuple es k pos) (.tup l) := fun A X s rm S R => by
  refine wpAny_Tuple_spliced (wpAny_mono (h A X s pos rm S R) (fun vs s₁ ⟨l', σ₁, rl, S₁, R₁, x₁, e₁, e₂⟩ => ?_) fun _ _ x => x)
  subst e₁; subst e₂
  refine ⟨by rw [rl.length]; exact Nat.le_trans hz (by decide), EPost.after x₁ S₁ R.ok (EPost.grown S₁ R₁ (push_stays _ _) ?_ ⟨rfl, rfl⟩)⟩
  simp only [Rep]
  refine ⟨_, vs, rfl, fun hb => ?_, ⟨_, Heap.get?_push_size _ rfl, rfl, 0, rfl⟩, rl.stay (stay_ext (push_stays _ _))⟩
  rcases hb with z | z
  · obtain ⟨o, ho⟩ := (S₁.gx _ z).2.2; exact absurd (Heap.lt_size ho) (Nat.lt_irrefl _)
  · cases q : σ₁ s₁.heap.objs.size with
    | none => exact z q
    | some b => obtain ⟨o, ho⟩ := (S₁.gs _ b q).2.live; exact absurd (Heap.lt_size ho) (Nat.lt_irrefl _)
theorem Ev.tuple {es : List PySem.Expr} {k : Nat} {pos : Pos} {Q : PV → Sto → Prop} (h : Es c n env es ρ σ fun l σ₁ => l.length ≤ 1000 ∧ Q (.tup l) σ₁) : Ev c n env (.Tuple es k pos) ρ σ Q := fun A X s rm S R => by
  refine wpAny_Tuple_spliced (wpAny_mono (h A X s pos rm S R) (fun vs s₁ ⟨l, σ₁, rl, S₁, R₁, x₁, hz, q⟩ => ?_) fun _ _ x => x)
  refine ⟨by rw [rl.length]; exact Nat.le_trans hz (by decide), EPost.after x₁ S₁ R.ok (EPost.grown S₁ R₁ (push_stays _ _) ?_ q)⟩
  simp only [Rep]
  refine ⟨_, vs, rfl, fun hb => ?_, ⟨_, Heap.get?_push_size _ rfl, rfl, 0, rfl⟩, rl.stay (stay_ext (push_stays _ _))⟩
  rcases hb with z | z
  · obtain ⟨o, ho⟩ := (S₁.gx _ z).2.2; exact absurd (Heap.lt_size ho) (Nat.lt_irrefl _)
  · cases q : σ₁ s₁.heap.objs.size with
    | none => exact z q
    | some b => obtain ⟨o, ho⟩ := (S₁.gs _ b q).2.live; exact absurd (Heap.lt_size ho) (Nat.lt_irrefl _)
theorem fresh_sto {G : Heap} {X : Addr → Prop} {h : Heap} {σ : Sto} (S : Sat prog w G X h σ) {a : Addr} (ha : h.get? a = none) : σ a = none := by
  cases q : σ a with
  | none => rfl
  | some b => obtain ⟨o, ho⟩ := (S.gs a b q).2.live; rw [ha] at ho; cases ho
theorem size_none (h : Heap) : h.get? h.objs.size = none := by
  cases q : h.get? h.objs.size with
  | none => rfl
  | some o => exact absurd (Heap.lt_size q) (Nat.lt_irrefl _)
theorem good_new {G : Heap} {X : Addr → Prop} {h : Heap} {σ : Sto} (S : Sat prog w G X h σ) : ¬ Bad X σ h.objs.size := fun hb => by
  rcases hb with z | z
  · obtain ⟨o, ho⟩ := (S.gx _ z).2.2; rw [size_none] at ho; cases ho
  · exact z (fresh_sto S (size_none _))
theorem good_of {G : Heap} {X : Addr → Prop} {h : Heap} {σ : Sto} (S : Sat prog w G X h σ) {a : Addr} (ha : h.get? a = none) : ¬ Bad X σ a := fun hb => by
  rcases hb with z | z
  · obtain ⟨o, ho⟩ := (S.gx _ z).2.2; rw [ha] at ho; cases ho
  · exact z (fresh_sto S ha)
theorem Ev.list {es : List PySem.Expr} {pos : Pos} {Q : PV → Sto → Prop} (h : Es c n env es ρ σ fun l σ₁ => l.length ≤ 1000 ∧ Q (.lst l) σ₁) : Ev c n env (.List es pos) ρ σ Q := fun A X s rm S R => by
  refine wpAny_List_spliced (wpAny_mono (h A X s pos rm S R) (fun vs s₁ ⟨l, σ₁, rl, S₁, R₁, x₁, hz, q⟩ => ?_) fun _ _ x => x)
  refine ⟨by rw [rl.length]; exact Nat.le_trans hz (by decide), EPost.after x₁ S₁ R.ok (EPost.grown S₁ R₁ (push_stays _ _) ?_ q)⟩
  simp only [Rep]
  exact ⟨_, vs, 0, rfl, good_new S₁, Heap.get?_push_size _ rfl, rl.stay (stay_ext (push_stays _ _))⟩
theorem De.list {es : List PySem.Expr} {pos : Pos} {l : List PV} (h : Ds c n env ρ σ es l) (hz : l.length ≤ 1000 := by decide) : De c n env ρ σ (.List es pos) (.lst l) := Ev.list (Es.mono h fun l' σ' ⟨a, b⟩ => ⟨by rw [a]; exact hz, by rw [a], b⟩)
theorem Ev.listAt {es : List PySem.Expr} {pos : Pos} {Q : PV → Sto → Prop} (h : Es c n env es ρ σ fun l σ₁ => l.length ≤ 1000 ∧ ∀ a, σ₁ a = none → Q (.at a) (σ₁.upd a (.list l))) : Ev c n env (.List es pos) ρ σ Q := fun A X s rm S R => by
  refine wpAny_List_spliced (wpAny_mono (h A X s pos rm S R) (fun vs s₁ ⟨l, σ₁, rl, S₁, R₁, x₁, hz, q⟩ => ?_) fun _ _ x => x)
  refine ⟨by rw [rl.length]; exact Nat.le_trans hz (by decide), EPost.after x₁ S₁ R.ok ?_⟩
  have hk : ∀ x o, s₁.heap.get? x = some o → x ≠ s₁.heap.objs.size → (s₁.heap.push { cls := .type "list", data := .seq vs.toArray }).get? x = some o := fun x o e _ => push_stays _ _ x o e
  have hn : σ₁ s₁.heap.objs.size ≠ none ∨ s₁.heap.get? s₁.heap.objs.size = none := .inr (size_none _)
  have st := stay_upd (X := X) (b := .list l) hk hn
  exact ⟨_, _, Rep.at, S₁.upd (b := .list l) hk hn ⟨vs, 0, Heap.get?_push_size _ rfl, rl.stay st⟩, R₁.stay st fun a o _ e => push_stays _ _ a o e, step_upd hk hn, q _ (fresh_sto S₁ (size_none _))⟩
theorem isTup_of {h : Heap} {a : Addr} {vs : Array Value} (x : h.IsTuple a vs) : IsTup h a vs := x
theorem isList_of {h : Heap} {a : Addr} {vs : List Value} {k : Nat} (x : h.get? a = some (listOf vs.toArray k)) : h.IsList a vs.toArray := ⟨_, x, rfl, k, rfl⟩
theorem seqIndex_inv {k : Int} {n j : Nat} (h : seqIndex? k n = some j) : (0 ≤ k ∧ j = k.toNat ∧ j < n) ∨ (k < 0 ∧ -(n : Int) ≤ k ∧ j = (k + n).toNat) := by
  unfold seqIndex? at h
  by_cases h0 : k < 0
  · right
    simp only [h0, if_true] at h
    split at h
    · rename_i q
      simp only [Bool.and_eq_true, decide_eq_true_eq] at q
      have h := Option.some.inj h
      refine ⟨h0, by omega, h.symm⟩
    · exact nomatch h
  · left
    simp only [h0, if_false] at h
    split at h
    · rename_i q
      simp only [Bool.and_eq_true, decide_eq_true_eq] at q
      have h := Option.some.inj h
      exact ⟨by omega, h.symm, by omega⟩
    · exact nomatch h
theorem item_list {a : Addr} {vs : List Value} {k : Nat} {i : Int} {t : Tok} {j : Nat} {v : Value} {A : Around} {s : Shared} {E : Value → Shared → Prop} {Q : Value → Shared → Prop} {value slice : PySem.Expr} (hl : s.heap.get? a = some (listOf vs.toArray k)) (h1 : -(2 ^ 63) ≤ i) (h2 : i < 2 ^ 63) (hj : seqIndex? i vs.length = some j) (hv : vs[j]? = some v) (q : Q v s)
    (hs : subscripted slice false (.ref a) (.int i t) = operate [.ref a, .int i t] (getItem (.ref a) (.int i t))) : wpAny (model prog w) A (subscriptTail value slice (.ref a) (.int i t)) Q E s := by
  have hL := isList_of hl
  refine tail_any hL.typeIs slot_list_getitem.lookup ?_ hs
  rcases seqIndex_inv hj with ⟨h0, e, _⟩ | ⟨h0, hn, e⟩
  · refine wpAny_getItem_list hL h0 h2 ?_ q
    rw [← e]; simpa using hv
  · refine wpAny_getItem_list_neg hL h0 (by simpa using hn) h1 ?_ q
    simp only [List.size_toArray]
    rw [← e]; simpa using hv
theorem De.item {v i : PySem.Expr} {pos : Pos} {l : List PV} {k : Int} {j : Nat} {p : PV} (hv : De c n env ρ σ v (.tup l)) (hi : De c n env ρ σ i (.int k)) (h1 : -(2 ^ 63) ≤ k) (h2 : k < 2 ^ 63) (hj : seqIndex? k l.length = some j) (hp : l[j]? = some p)
    (hs : ∀ a t, subscripted i false (.ref a) (.int k t) = operate [.ref a, .int k t] (getItem (.ref a) (.int k t)) := by intro _ _; rfl) : De c n env ρ σ (.Subscript v i pos) p := fun A X s rm S R =>
  Subscript_ (two hv hi rm S R fun u z s' ru rz S' R' => by
    obtain ⟨a, vs, rfl, hb, ht, rl⟩ := ru.tup_inv
    obtain ⟨t, rfl⟩ := rz.int_inv
    obtain ⟨x, hx, rx⟩ := rl.get hp
    exact item_tupleT (isTup_of ht) h1 h2 (by rw [rl.length]; exact hj) hx (EPost.same S' R' rx ⟨rfl, rfl⟩) (hs a t))
theorem De.itemL {v i : PySem.Expr} {pos : Pos} {l : List PV} {k : Int} {j : Nat} {p : PV} (hv : De c n env ρ σ v (.lst l)) (hi : De c n env ρ σ i (.int k)) (h1 : -(2 ^ 63) ≤ k) (h2 : k < 2 ^ 63) (hj : seqIndex? k l.length = some j) (hp : l[j]? = some p)
    (hs : ∀ a t, subscripted i false (.ref a) (.int k t) = operate [.ref a, .int k t] (getItem (.ref a) (.int k t)) := by intro _ _; rfl) : De c n env ρ σ (.Subscript v i pos) p := fun A X s rm S R =>
  Subscript_ (two hv hi rm S R fun u z s' ru rz S' R' => by
    obtain ⟨a, vs, m, rfl, hb, ht, rl⟩ := ru.lst_inv
    obtain ⟨t, rfl⟩ := rz.int_inv
    obtain ⟨x, hx, rx⟩ := rl.get hp
    exact item_list ht h1 h2 (by rw [rl.length]; exact hj) hx (EPost.same S' R' rx ⟨rfl, rfl⟩) (hs a t))
theorem De.itemAt {v i : PySem.Expr} {pos : Pos} {a : Addr} {l : List PV} {k : Int} {j : Nat} {p : PV} (hv : De c n env ρ σ v (.at a)) (hi : De c n env ρ σ i (.int k)) (ha : σ a = some (.list l)) (h1 : -(2 ^ 63) ≤ k) (h2 : k < 2 ^ 63) (hj : seqIndex? k l.length = some j) (hp : l[j]? = some p)
    (hs : ∀ a t, subscripted i false (.ref a) (.int k t) = operate [.ref a, .int k t] (getItem (.ref a) (.int k t)) := by intro _ _; rfl) : De c n env ρ σ (.Subscript v i pos) p := fun A X s rm S R =>
  Subscript_ (two hv hi rm S R fun u z s' ru rz S' R' => by
    have := ru.at_inv; subst this
    obtain ⟨t, rfl⟩ := rz.int_inv
    obtain ⟨vs, m, ht, rl⟩ := (S'.gs a _ ha).2
    obtain ⟨x, hx, rx⟩ := rl.get hp
    exact item_list ht h1 h2 (by rw [rl.length]; exact hj) hx (EPost.same S' R' rx ⟨rfl, rfl⟩) (hs a t))
theorem seqIndex_nat {k n : Nat} (h : k < n) : seqIndex? (k : Int) n = some k := by
  unfold seqIndex?
  have h1 : ¬ ((k : Int) < 0) := by omega
  simp only [h1, if_false]
  rw [if_pos (by simp; omega)]
  simp
theorem Ev.call {i : Nat} {f : Str} {a : Addr} {fp pos : Pos} {e : PySem.Expr} {es : List PySem.Expr} {Q : PV → Sto → Prop} (hi : env.scope.names[i]? = some (f, .globalImplicit)) (hg : nsIn K mainGlobals f = some (some (.ref a))) (hk : keepIn K (.ref a) = true)
    (h : Es c n env (e :: es) ρ σ fun l σ₁ => Ca c n (.ref a) l σ₁ Q) (hd : (f == ("__debug__" : Str)) = false := by decide) (he : starEach (e :: es) env = (false, eval e env) :: starEach es env := by rfl) (hp : (backTo pos (starEach es env)).any (·.1) = false := by rfl) :
    Ev c n env (.Call (.Name f fp) (e :: es) [] pos) ρ σ Q := fun A X s rm S R => by
  refine wpAny_Call_ofName (name_glob S R hi hg hd ?_)
  refine callWith_K (c.X.keeps S.gr) hk ?_ he hp
  refine wpAny_mono (h A X s pos rm S R) (fun vs s₁ ⟨l, σ₁, rl, S₁, R₁, x₁, q⟩ => ⟨c.X.keeps S₁.gr, ?_⟩) fun _ _ x => x
  refine wpAny_mono (q A X s₁ vs rm S₁ rl) (fun v s₂ ⟨pv, σ₂, rv, S₂, x₂, q₂⟩ => ?_) fun _ _ x => x
  exact ⟨pv, σ₂, rv, S₂, R₁.step S₁ x₂, x₁.trans (x₂.mono nof_own) S₁ R.ok.own, q₂⟩
theorem args_any {f : Value} {es : List PySem.Expr} {pos : Pos} {A : Around} {s : Shared} {M : Model} {E : Value → Shared → Prop} {Q : Args → Shared → Prop} (ha : es = [] ∨ ∃ e r, es = e :: r ∧ starEach (e :: r) env = (false, eval e env) :: starEach r env)
    (h : wpAny M A (spliced (backTo pos (starEach es env))) (fun vs s₁ => Q ⟨vs, []⟩ s₁) E s) : wpAny M A (evalArgs f true (backTo pos (starEach es env)) []) Q E s := by
  rcases ha with rfl | ⟨e, r, rfl, he⟩
  · have e0 : backTo pos (starEach [] env) = [] := rfl
    rw [e0] at h ⊢
    unfold evalArgs
    show wpAny _ _ (spliced [] >>= _) Q _ s
    refine wpAny_bind (wpAny_mono h (fun vs s₁ q => ?_) fun _ _ x => x)
    refine wpAny_bind (wpAny_pure ?_)
    refine wpAny_holding ?_
    exact wpAny_bind (wpAny_pure (wpAny_bind (wpAny_pure (wpAny_pure q))))
  · rw [he] at h ⊢
    exact Calls.evalArgs_plain h
theorem Ev.boot {i : Nat} {f : Str} {id : String} {fp pos : Pos} {es : List PySem.Expr} {Q : PV → Sto → Prop} (hi : env.scope.names[i]? = some (f, .globalImplicit)) (hg : nsIn K mainGlobals f = some none) (hb : bootBuiltins f = some (.builtin id))
    (h : Es c n env es ρ σ fun l σ₁ => Ca c n (.builtin id) l σ₁ Q) (hp : (backTo pos (starEach es env)).any (·.1) = false := by rfl) (ha : es = [] ∨ ∃ e r, es = e :: r ∧ starEach (e :: r) env = (false, eval e env) :: starEach r env := by first | exact .inl rfl | exact .inr ⟨_, _, rfl, rfl⟩) (hn : f ≠ "__name__" := by decide) (hd : (f == ("__debug__" : Str)) = false := by decide) :
    Ev c n env (.Call (.Name f fp) es [] pos) ρ σ Q := fun A X s rm S R => by
  refine wpAny_Call_ofName (name_boot S R hi hg hb hn hd ?_)
  refine Calls.callWith_builtin hp ?_
  refine args_any ha ?_
  refine wpAny_mono (h A X s pos rm S R) (fun vs s₁ ⟨l, σ₁, rl, S₁, R₁, x₁, q⟩ => ?_) fun _ _ x => x
  refine wpAny_mono (q A X s₁ vs rm S₁ rl) (fun v s₂ ⟨pv, σ₂, rv, S₂, x₂, q₂⟩ => ?_) fun _ _ x => x
  exact ⟨pv, σ₂, rv, S₂, R₁.step S₁ x₂, x₁.trans (x₂.mono nof_own) S₁ R.ok.own, q₂⟩
theorem Ev.bootT {i : Nat} {f : Str} {T : String} {fp pos : Pos} {es : List PySem.Expr} {Q : PV → Sto → Prop} (hi : env.scope.names[i]? = some (f, .globalImplicit)) (hg : nsIn K mainGlobals f = some none) (hb : bootBuiltins f = some (.type T))
    (h : Es c n env es ρ σ fun l σ₁ => Ca c n (.type T) l σ₁ Q) (hp : (backTo pos (starEach es env)).any (·.1) = false := by rfl) (ha : es = [] ∨ ∃ e r, es = e :: r ∧ starEach (e :: r) env = (false, eval e env) :: starEach r env := by first | exact .inl rfl | exact .inr ⟨_, _, rfl, rfl⟩) (hn : f ≠ "__name__" := by decide) (hd : (f == ("__debug__" : Str)) = false := by decide) :
    Ev c n env (.Call (.Name f fp) es [] pos) ρ σ Q := fun A X s rm S R => by
  refine wpAny_Call_ofName (name_boot S R hi hg hb hn hd ?_)
  refine PySem.callWith_type hp ?_
  refine args_any ha ?_
  refine wpAny_mono (h A X s pos rm S R) (fun vs s₁ ⟨l, σ₁, rl, S₁, R₁, x₁, q⟩ => ?_) fun _ _ x => x
  refine wpAny_mono (q A X s₁ vs rm S₁ rl) (fun v s₂ ⟨pv, σ₂, rv, S₂, x₂, q₂⟩ => ?_) fun _ _ x => x
  exact ⟨pv, σ₂, rv, S₂, R₁.step S₁ x₂, x₁.trans (x₂.mono nof_own) S₁ R.ok.own, q₂⟩
end
section
variable {prog : Program} {w : World} {K : Frag} {c : Cx prog w K} {n : Nat} {env : Env} {ρ ρ' ρ'' : List (Option PV)} {σ : Sto}
theorem get_mem_idx {α : Type} : ∀ {l : List α} {x : α}, x ∈ l → ∃ i : Nat, l[i]? = some x
  | _ :: _, _, .head _ => ⟨0, rfl⟩
  | _ :: r, _, .tail _ h => let ⟨i, e⟩ := get_mem_idx h; ⟨i + 1, e⟩
theorem nd_idx : ∀ {l : List (Str × NameKind)} {i j : Nat} {x : Str} {k k' : NameKind}, (l.map (·.1)).Nodup → l[i]? = some (x, k) → l[j]? = some (x, k') → i = j := by
  intro l i j x k k' hn hi hj
  have h1 : (l.map (·.1))[i]? = some x := by rw [List.getElem?_map, hi]; rfl
  have h2 : (l.map (·.1))[j]? = some x := by rw [List.getElem?_map, hj]; rfl
  exact (List.getElem?_inj (List.getElem?_eq_some_iff.mp h1).1 hn).mp (h1.trans h2.symm)
theorem store {i : Nat} {x : Str} {k : NameKind} {p : PV} {v : Value} {A : Around} {X : Addr → Prop} {s : Shared} {P : Unit → Shared → Prop} (hi : env.scope.names[i]? = some (x, k)) (hk : Mine env k)
    (S : Sat prog w c.G X s.heap σ) (R : LRep prog w env X s.heap (Bad X σ) ρ) (rv : Rep prog w s.heap (Bad X σ) p v)
    (q : ∀ s', Sat prog w c.G X s'.heap σ → LRep prog w env X s'.heap (Bad X σ) (ρ.set i (some p)) → Step (Own env) s σ s' σ → P () s') :
    wpAny (model prog w) A (storeName env x v) P NoE s := by
  obtain ⟨m, hm, hv⟩ := R.ns
  have old : ∀ (j : Nat) y k' pv, env.scope.names[j]? = some (y, k') → (ρ.set i (some p))[j]? = some (some pv) → (j = i ∧ pv = p) ∨ (j ≠ i ∧ ρ[j]? = some (some pv)) := by
    intro j y k' pv hj hp
    by_cases e : i = j
    · subst e
      rw [List.getElem?_set_self'] at hp
      cases hq : ρ[i]? with
      | none => rw [hq] at hp; simp at hp
      | some o => rw [hq] at hp; simp at hp; exact .inl ⟨rfl, hp.symm⟩
    · rw [List.getElem?_set_ne e] at hp
      exact .inr ⟨fun z => e z.symm, hp⟩
  rcases hk with rfl | ⟨rfl, hfr⟩
  · refine wpAny_storeName_local (R.kind hi) hm (fun h' hn hs => ?_) (by rw [R.ok.fn]; rfl)
    have hk : ∀ a o, s.heap.get? a = some o → ¬ (a = env.locals) → h'.get? a = some o := fun a o e hne => (hs.2 a hne).trans e
    have hX : ∀ a, a = env.locals → X a := fun a e => R.ok.own a (.inl e)
    have st := stay_chg (σ := σ) hk hX
    refine q _ (S.chg hk hX fun a e => ?_) ⟨R.ok, ⟨_, hn, fun j y k' pv hj hp => ?_⟩, fun y hy => ?_⟩ (step_chg hk fun a e => .inl e)
    · subst e; obtain ⟨o, _, _, ho, _⟩ := hn; exact ⟨o, ho⟩
    · rcases old j y k' pv hj hp with ⟨rfl, rfl⟩ | ⟨hne, hp'⟩
      · rw [hi] at hj; cases hj
        exact ⟨v, rv.stay st, .inl ⟨rfl, by simp⟩⟩
      · obtain ⟨u, ru, hh⟩ := hv j y k' pv hj hp'
        refine ⟨u, ru.stay st, ?_⟩
        rcases hh with ⟨e1, e2⟩ | ⟨e1, a, e2, e3, e4⟩
        · refine .inl ⟨e1, ?_⟩
          have : y ≠ x := fun z => hne (nd_idx R.ok.nd (z ▸ hj) hi)
          simp only [this, if_false]; exact e2
        · obtain ⟨o, h1, h2⟩ := e4
          exact .inr ⟨e1, a, e2, e3, o, hk a o h1 (R.ok.nl y a e2), h2⟩
    · obtain ⟨a, h1, h2, u, o, h3, h4⟩ := R.cl y hy
      exact ⟨a, h1, h2, u, o, hk a o h3 (R.ok.nl y a h1), h4⟩
  · have hmem : (x, NameKind.cell) ∈ env.scope.names := List.mem_of_getElem? hi
    obtain ⟨a, ha, hXa, v₀, hc⟩ := R.cl x hmem
    refine wpAny_storeName_cell R.ok.fn (R.kind hi) ha hc fun h' hc' hs => ?_
    have hk : ∀ b o, s.heap.get? b = some o → ¬ (b = a) → h'.get? b = some o := fun b o e hne => (hs.2 b hne).trans e
    have hX : ∀ b, b = a → X b := fun b e => e ▸ hXa
    have st := stay_chg (σ := σ) hk hX
    refine q _ (S.chg hk hX fun b e => ?_) ⟨R.ok, ⟨m, hm.at' fun o e => hk _ o e (fun z => R.ok.nl x a ha z.symm), fun j y k' pv hj hp => ?_⟩, fun y hy => ?_⟩ (step_chg (tk := s.toks) hk fun b e => .inr ⟨hfr, x, hmem, e ▸ ha⟩)
    · subst e; obtain ⟨o, ho, _⟩ := hc'; exact ⟨o, ho⟩
    · rcases old j y k' pv hj hp with ⟨rfl, rfl⟩ | ⟨hne, hp'⟩
      · rw [hi] at hj; cases hj
        exact ⟨v, rv.stay st, .inr ⟨.inl rfl, a, ha, hXa, hc'⟩⟩
      · obtain ⟨u, ru, hh⟩ := hv j y k' pv hj hp'
        refine ⟨u, ru.stay st, ?_⟩
        rcases hh with hh | ⟨e1, b, e2, e3, e4⟩
        · exact .inl hh
        · obtain ⟨o, h1, h2⟩ := e4
          have : b ≠ a := fun z => hne (nd_idx R.ok.nd ((R.ok.inj y x b e2 (z ▸ ha)) ▸ hj) hi)
          exact .inr ⟨e1, b, e2, e3, o, hk b o h1 this, h2⟩
    · by_cases e : y = x
      · subst e; exact ⟨a, ha, hXa, some v, hc'⟩
      · obtain ⟨b, h1, h2, u, o, h3, h4⟩ := R.cl y hy
        exact ⟨b, h1, h2, u, o, hk b o h3 (fun z => e (R.ok.inj y x b h1 (z ▸ ha))), h4⟩
noncomputable def As (c : Cx prog w K) (n : Nat) (env : Env) (t : PySem.Expr) (p : PV) (ρ ρ' : List (Option PV)) : Prop :=
  ∀ A X s σ v, Room n A → Sat prog w c.G X s.heap σ → LRep prog w env X s.heap (Bad X σ) ρ → Rep prog w s.heap (Bad X σ) p v →
    wpAny (model prog w) A (assign t env v) (fun _ s' => Sat prog w c.G X s'.heap σ ∧ LRep prog w env X s'.heap (Bad X σ) ρ' ∧ Step (Own env) s σ s' σ) NoE s
theorem As.name {i : Nat} {x : Str} {k : NameKind} {p : PV} {pos : Pos} (hi : env.scope.names[i]? = some (x, k)) (hk : Mine env k := by first | exact .inl rfl | exact .inr ⟨rfl, rfl⟩) : As c n env (.Name x pos) p ρ (ρ.set i (some p)) := fun A X s σ v rm S R rv =>
  wpAny_assign_Name (store hi hk S R rv fun s' S' R' x' => ⟨S', R', x'⟩)
inductive Ass (c : Cx prog w K) (n : Nat) (env : Env) : List PySem.Expr → List PV → List (Option PV) → List (Option PV) → Prop
  | nil (ρ : List (Option PV)) : Ass c n env [] [] ρ ρ
  | cons {t : PySem.Expr} {ts : List PySem.Expr} {p : PV} {l : List PV} {ρ ρ' ρ'' : List (Option PV)} : As c n env t p ρ ρ' → Ass c n env ts l ρ' ρ'' → Ass c n env (t :: ts) (p :: l) ρ ρ''
noncomputable def plainTargets : List PySem.Expr → Env → Prop
  | [], _ => True
  | t :: ts, env => assignEach (t :: ts) env = (false, assign t env) :: assignEach ts env ∧ plainTargets ts env
theorem assignEach_plain : ∀ {ts : List PySem.Expr} {env : Env}, plainTargets ts env → assignEach ts env = ts.map fun t => (false, assign t env)
  | [], _, _ => rfl
  | t :: ts, env, h => by rw [h.1, assignEach_plain h.2]; rfl
theorem assign_all {ts : List PySem.Expr} {l : List PV} (a : Ass c n env ts l ρ ρ') : ∀ {A : Around} {X : Addr → Prop} {s : Shared} {σ : Sto} {vs : List Value}, Room n A → Sat prog w c.G X s.heap σ → LRep prog w env X s.heap (Bad X σ) ρ → Reps prog w s.heap (Bad X σ) l vs →
    wpAny (model prog w) A (assignInOrder (ts.map fun t => assign t env) vs) (fun _ s' => Sat prog w c.G X s'.heap σ ∧ LRep prog w env X s'.heap (Bad X σ) ρ' ∧ Step (Own env) s σ s' σ) NoE s := by
  induction a with
  | nil =>
    intro A X s σ vs rm S R rv
    simp only [Reps] at rv
    subst rv
    exact wpAny_assignInOrder_none ⟨S, R, Step.refl _ _ _⟩
  | cons h _ ih =>
    intro A X s σ vs rm S R rv
    simp only [Reps] at rv
    obtain ⟨v, us, rfl, r1, r2⟩ := rv
    refine wpAny_assignInOrder_more (wpAny_mono (h A X s σ v rm S R r1) (fun _ s₁ ⟨S₁, R₁, x₁⟩ => ?_) fun _ _ x => x)
    exact wpAny_mono (ih rm S₁ R₁ (r2.stay (x₁.stay R.ok.own))) (fun _ s₂ ⟨S₂, R₂, x₂⟩ => ⟨S₂, R₂, x₁.trans x₂ S₁ R.ok.own⟩) fun _ _ x => x
theorem Ass.length {ts : List PySem.Expr} {l : List PV} (a : Ass c n env ts l ρ ρ') : ts.length = l.length := by
  induction a with
  | nil => rfl
  | cons _ _ ih => simp only [List.length_cons, ih]
theorem As.tup {ts : List PySem.Expr} {l : List PV} {k : Nat} {pos : Pos} (a : Ass c n env ts l ρ ρ') (hp : plainTargets ts env := by exact ⟨rfl, rfl, trivial⟩) : As c n env (.Tuple ts k pos) (.tup l) ρ ρ' := fun A X s σ v rm S R rv => by
  obtain ⟨t, vs, rfl, hb, ht, rl⟩ := rv.tup_inv
  refine wpAny_assign_Tuple rm.handled ht ?_ ?_ fun h' he => ?_
  · rw [assignEach_plain hp, List.length_map, a.length, ← rl.length]; simp
  · rw [assignEach_plain hp]
    rw [List.findIdx?_eq_none_iff]
    intro x hx
    obtain ⟨y, _, rfl⟩ := List.mem_map.mp hx
    rfl
  · have hk := extBut_new he
    rw [assignEach_plain hp, List.map_map]
    refine wpAny_mono (assign_all a (s := { s with heap := h' }) rm (S.ext hk) (R.ext hk) (rl.stay (stay_ext hk))) (fun _ s₂ ⟨S₂, R₂, x₂⟩ => ⟨S₂, R₂, ?_⟩) fun _ _ x => x
    exact (step_ext (tk := s.toks) hk).trans x₂ (S.ext hk) R.ok.own
theorem Xs.nil {Q : FV → List (Option PV) → Sto → Prop} (q : Q .next ρ σ) : Xs c n env [] ρ σ Q := fun A X s rm S R => wpAny_execs_nil ⟨.next, ρ, σ, rfl, S, R, Step.refl _ _ _, q⟩
noncomputable def Go (c : Cx prog w K) (n : Nat) (env : Env) (rest : List Stmt) (Q : FV → List (Option PV) → Sto → Prop) : FV → List (Option PV) → Sto → Prop
  | .next, ρ, σ => Xs c n env rest ρ σ Q
  | f, ρ, σ => Q f ρ σ
theorem Xs.cons {st : Stmt} {rest : List Stmt} {Q : FV → List (Option PV) → Sto → Prop} (h : Ex c n env st ρ σ (Go c n env rest Q)) : Xs c n env (st :: rest) ρ σ Q := fun A X s rm S R => by
  refine wpAny_execs_cons (wpAny_mono (h A X s rm S R) (fun f s₁ ⟨fv, ρ₁, σ₁, rf, S₁, R₁, x₁, q⟩ => ?_) fun _ _ x => x)
  cases fv with
  | next =>
    have : f = .next := rf
    subst this
    exact wpAny_mono (q A X s₁ rm S₁ R₁) (fun _ _ h => h.after x₁ S₁ R.ok) fun _ _ x => x
  | brk => have : f = .brk := rf; subst this; exact ⟨.brk, ρ₁, σ₁, rfl, S₁, R₁, x₁, q⟩
  | cont => have : f = .cont := rf; subst this; exact ⟨.cont, ρ₁, σ₁, rfl, S₁, R₁, x₁, q⟩
  | ret p => obtain ⟨v, rfl, rv⟩ := rf; exact ⟨.ret p, ρ₁, σ₁, ⟨v, rfl, rv⟩, S₁, R₁, x₁, q⟩
theorem Ex.ret {e : PySem.Expr} {pos : Pos} {Q : FV → List (Option PV) → Sto → Prop} (h : Ev c n env e ρ σ fun p σ₁ => Q (.ret p) ρ σ₁) : Ex c n env (.Return (some e) pos) ρ σ Q := fun A X s rm S R =>
  wpAny_Return_some (Ev.then h rm S R fun v s₁ p σ₁ rv S₁ R₁ x₁ q => ⟨.ret p, ρ, σ₁, ⟨v, rfl, rv⟩, S₁, R₁, x₁, q⟩)
theorem Ex.retNone {pos : Pos} {Q : FV → List (Option PV) → Sto → Prop} (h : Q (.ret .none) ρ σ) : Ex c n env (.Return none pos) ρ σ Q := fun A X s rm S R =>
  wpAny_Return_none ⟨.ret .none, ρ, σ, ⟨_, rfl, Rep.none⟩, S, R, Step.refl _ _ _, h⟩
theorem Ex.cont {pos : Pos} {Q : FV → List (Option PV) → Sto → Prop} (h : Q .cont ρ σ) : Ex c n env (.Continue pos) ρ σ Q := fun A X s rm S R =>
  wpAny_Continue ⟨.cont, ρ, σ, rfl, S, R, Step.refl _ _ _, h⟩
theorem Xs.ret {e : PySem.Expr} {pos : Pos} {rest : List Stmt} {Q : FV → List (Option PV) → Sto → Prop} (h : Ev c n env e ρ σ fun p σ₁ => Q (.ret p) ρ σ₁) : Xs c n env (.Return (some e) pos :: rest) ρ σ Q := Xs.cons (Ex.ret h)
theorem Ex.ifs {t : PySem.Expr} {body orelse : List Stmt} {pos : Pos} {b : Bool} {Q : FV → List (Option PV) → Sto → Prop} (ht : Dt c n env ρ σ t b) (hb : b = true → Xs c n env body ρ σ Q) (ho : b = false → Xs c n env orelse ρ σ Q) : Ex c n env (.If t body orelse pos) ρ σ Q := fun A X s rm S R => by
  refine wpAny_If (Te.then ht rm S R fun b' s₁ σ₁ S₁ R₁ x₁ e => ?_)
  obtain ⟨rfl, rfl⟩ := e
  cases b' with
  | true => exact wpAny_mono (hb rfl A X s₁ rm S₁ R₁) (fun _ _ h => h.after x₁ S₁ R.ok) fun _ _ x => x
  | false => exact wpAny_mono (ho rfl A X s₁ rm S₁ R₁) (fun _ _ h => h.after x₁ S₁ R.ok) fun _ _ x => x
theorem Ex.assign {x : Str} {px pos : Pos} {e : PySem.Expr} {i : Nat} {k : NameKind} {Q : FV → List (Option PV) → Sto → Prop} (hi : env.scope.names[i]? = some (x, k)) (h : Ev c n env e ρ σ fun p σ₁ => Q .next (ρ.set i (some p)) σ₁)
    (hk : Mine env k := by first | exact .inl rfl | exact .inr ⟨rfl, rfl⟩) (hs : swapsWith e (some (.Name x px)) pos.line env = pure false := by rfl) : Ex c n env (.Assign [.Name x px] e pos) ρ σ Q := fun A X s rm S R =>
  wpAny_Assign_Name (Ev.then h rm S R fun v s₁ p σ₁ rv S₁ R₁ x₁ q => store hi hk S₁ R₁ rv fun s₂ S₂ R₂ x₂ => ⟨.next, _, σ₁, rfl, S₂, R₂, x₁.trans x₂ S₁ R.ok.own, q⟩) hs
theorem Ex.assignTo {ts : List PySem.Expr} {m : Nat} {tpos pos : Pos} {e : PySem.Expr} {p : PV} {Q : FV → List (Option PV) → Sto → Prop} (h : Ev c n env e ρ σ fun p' σ₁ => p' = p ∧ Q .next ρ' σ₁) (a : As c n env (.Tuple ts m tpos) p ρ ρ')
    (hs : swapsWithSole [.Tuple ts m tpos] e pos.line env = pure false := by rfl) (hw : swappedStores [.Tuple ts m tpos] e env = pure none := by rfl) : Ex c n env (.Assign [.Tuple ts m tpos] e pos) ρ σ Q := fun A X s rm S R => by
  refine Assign_Tuple (Ev.then h rm S R fun v s₁ p' σ₁ rv S₁ R₁ x₁ q => ?_) hs hw
  obtain ⟨rfl, q⟩ := q
  exact wpAny_mono (a A X s₁ σ₁ v rm S₁ R₁ rv) (fun _ s₂ ⟨S₂, R₂, x₂⟩ => ⟨.next, _, σ₁, rfl, S₂, R₂, x₁.trans x₂ S₁ R.ok.own, q⟩) fun _ _ x => x
inductive Sts (env : Env) : List Str → List PV → List (Option PV) → List (Option PV) → Prop
  | nil (ρ : List (Option PV)) : Sts env [] [] ρ ρ
  | cons {x : Str} {xs : List Str} {p : PV} {l : List PV} {ρ ρ' : List (Option PV)} {i : Nat} {k : NameKind} : env.scope.names[i]? = some (x, k) → Mine env k → Sts env xs l (ρ.set i (some p)) ρ' → Sts env (x :: xs) (p :: l) ρ ρ'
theorem store_all {xs : List Str} {l : List PV} (a : Sts env xs l ρ ρ') : ∀ {A : Around} {X : Addr → Prop} {s : Shared} {σ : Sto} {vs : List Value}, Sat prog w c.G X s.heap σ → LRep prog w env X s.heap (Bad X σ) ρ → Reps prog w s.heap (Bad X σ) l vs →
    wpAny (model prog w) A (assignInOrder (xs.map fun x => bindName env x) vs) (fun _ s' => Sat prog w c.G X s'.heap σ ∧ LRep prog w env X s'.heap (Bad X σ) ρ' ∧ Step (Own env) s σ s' σ) NoE s := by
  induction a with
  | nil =>
    intro A X s σ vs S R rv
    simp only [Reps] at rv
    subst rv
    exact wpAny_assignInOrder_none ⟨S, R, Step.refl _ _ _⟩
  | cons hi hk _ ih =>
    intro A X s σ vs S R rv
    simp only [Reps] at rv
    obtain ⟨v, us, rfl, r1, r2⟩ := rv
    refine wpAny_assignInOrder_more (wpAny_bindName (store hi hk S R r1 fun s₁ S₁ R₁ x₁ => ?_))
    exact wpAny_mono (ih S₁ R₁ (r2.stay (x₁.stay R.ok.own))) (fun _ s₂ ⟨S₂, R₂, x₂⟩ => ⟨S₂, R₂, x₁.trans x₂ S₁ R.ok.own⟩) fun _ _ x => x
theorem Reps.reverse {h : Heap} {bad : Addr → Prop} : ∀ {l : List PV} {vs : List Value}, Reps prog w h bad l vs → Reps prog w h bad l.reverse vs.reverse
  | [], _, x => by simp only [Reps] at x; subst x; exact Reps.nil
  | p :: ps, _, x => by
    simp only [Reps] at x
    obtain ⟨v, us, rfl, a, b⟩ := x
    rw [List.reverse_cons, List.reverse_cons]
    exact (Reps.reverse b).append (Reps.cons a Reps.nil)
theorem Ex.expr {e : PySem.Expr} {pos : Pos} {Q : FV → List (Option PV) → Sto → Prop} (h : Ev c n env e ρ σ fun _ σ₁ => Q .next ρ σ₁) (hi : interactive env = false := by rfl) (hs : swapsWith e none pos.line env = pure false := by rfl) : Ex c n env (.Expr e pos) ρ σ Q := fun A X s rm S R =>
  wpAny_Expr_any (Ev.then h rm S R fun v s₁ p σ₁ rv S₁ R₁ x₁ q => ⟨.next, ρ, σ₁, rfl, S₁, R₁, x₁, q⟩) hi hs
end
theorem bindL_off (kf : Str → Option NameKind) {x : Str} : ∀ (bs : List (Str × Value)) (m : Str → Option Value), x ∉ bs.map (·.1) → bindL kf bs m x = m x
  | [], _, _ => rfl
  | (y, u) :: r, m, h => by
    rw [List.map_cons, List.mem_cons] at h
    show bindL kf r _ x = _
    rw [bindL_off kf r _ fun z => h (.inr z)]
    split
    · show (if x = y then some u else m x) = m x
      rw [if_neg fun z => h (.inl z)]
    · rfl
theorem bindC_off (kf : Str → Option NameKind) {x : Str} : ∀ (bs : List (Str × Value)) (m : Str → Option Value), x ∉ bs.map (·.1) → bindC kf bs m x = m x
  | [], _, _ => rfl
  | (y, u) :: r, m, h => by
    rw [List.map_cons, List.mem_cons] at h
    show bindC kf r _ x = _
    rw [bindC_off kf r _ fun z => h (.inr z)]
    split
    · rfl
    · show (if x = y then some u else m x) = m x
      rw [if_neg fun z => h (.inl z)]
theorem bindL_on (kf : Str → Option NameKind) {x : Str} {v : Value} (hk : kf x = some .local) : ∀ (bs : List (Str × Value)) (m : Str → Option Value), (bs.map (·.1)).Nodup → (x, v) ∈ bs → bindL kf bs m x = some v
  | (y, u) :: r, m, hn, hm => by
    rw [List.map_cons, List.nodup_cons] at hn
    show bindL kf r _ x = _
    rcases List.mem_cons.mp hm with e | hm
    · cases e
      rw [bindL_off kf r _ hn.1, if_pos hk]
      exact if_pos rfl
    · exact bindL_on kf hk r _ hn.2 hm
theorem bindC_on (kf : Str → Option NameKind) {x : Str} {v : Value} (hk : kf x ≠ some .local) : ∀ (bs : List (Str × Value)) (m : Str → Option Value), (bs.map (·.1)).Nodup → (x, v) ∈ bs → bindC kf bs m x = some v
  | (y, u) :: r, m, hn, hm => by
    rw [List.map_cons, List.nodup_cons] at hn
    show bindC kf r _ x = _
    rcases List.mem_cons.mp hm with e | hm
    · cases e
      rw [bindC_off kf r _ hn.1, if_neg hk]
      exact if_pos rfl
    · exact bindC_on kf hk r _ hn.2 hm
theorem mem_of_lookup {x : Str} {a : Addr} : ∀ {l : List (Str × Addr)}, l.lookup x = some a → (x, a) ∈ l
  | (y, b) :: r, h => by
    rw [List.lookup_cons] at h
    split at h
    · rename_i q
      cases h
      rw [eq_of_beq q]; exact .head _
    · exact .tail _ (mem_of_lookup h)
theorem cellsFrom_mem : ∀ (names : List (Str × NameKind)) (n : Nat) (acc : List (Str × Addr)) (x : Str) (a : Addr), (x, a) ∈ cellsFrom n names acc → (x, NameKind.cell) ∈ names ∨ (x, a) ∈ acc
  | [], _, _, _, _, h => .inr h
  | (y, k) :: r, n, acc, x, a, h => by
    unfold cellsFrom at h
    by_cases hk : (k == .cell) = true
    · rw [if_pos hk] at h
      rcases cellsFrom_mem r _ _ x a h with z | z
      · exact .inl (.tail _ z)
      · rcases List.mem_cons.mp z with e | z
        · cases e; rw [eq_of_beq hk]; exact .inl (.head _)
        · exact .inr z
    · rw [if_neg hk] at h
      exact (cellsFrom_mem r _ _ x a h).imp (fun z => .tail _ z) id
theorem apart_inj : ∀ {l : List (Str × Addr)}, l.Pairwise (fun x y => x.2 ≠ y.2) → ∀ {x y : Str} {a : Addr}, (x, a) ∈ l → (y, a) ∈ l → x = y
  | p :: r, h, x, y, a, h1, h2 => by
    rw [List.pairwise_cons] at h
    rcases List.mem_cons.mp h1 with e1 | h1
    · rcases List.mem_cons.mp h2 with e2 | h2
      · rw [← e1] at e2; exact (Prod.mk.inj e2).1.symm
      · exact absurd (by rw [← e1]) (h.1 _ h2)
    · rcases List.mem_cons.mp h2 with e2 | h2
      · exact absurd (by rw [← e2]) (h.1 _ h1)
      · exact apart_inj h.2 h1 h2
section
variable {prog : Program} {w : World} {K : Frag} {c : Cx prog w K} {n : Nat} {σ : Sto}
noncomputable def ρ0 (scope : Scope) (l : List PV) : List (Option PV) := l.map some ++ List.replicate (scope.names.length - l.length) none
noncomputable def Back (Q : PV → Sto → Prop) : FV → List (Option PV) → Sto → Prop
  | .ret p, _, σ => Q p σ
  | .next, _, σ => Q .none σ
  | _, _, _ => False
theorem Room.deeper {A : Around} {env : Env} (r : Room (n + 1) A) : Room n (A.deeper env) := ⟨by have := r.depth; show A.depth + 1 + 4 * n < 950; (first | lia | omega), by have := r.units; show A.units + 3 + 16 * n + 64 < 9900; (first | lia | omega), r.handled⟩
theorem Room.in1 {A : Around} (r : Room (n + 1) A) : Room n A.in1 := ⟨by have := r.depth; show A.depth + 4 * n < 950; (first | lia | omega), by have := r.units; show A.units + 1 + 16 * n + 64 < 9900; (first | lia | omega), r.handled⟩
theorem code_def' {f : Addr} {oc cdv ct dV kV doc pm : Value} {od an : Option Addr} {osl : Array (Option Value)} {name qual : Str} {params : Arguments} {body : List Stmt} {scope : Scope} {l0 l : List PV} {xs : List Str} {Q : PV → Sto → Prop}
    (ho : K.lookup f = some ⟨oc, od, .func (fnOf name qual params body scope dV kV doc pm an cdv ct), osl⟩) (hcd : codeIn K cdv qual = true)
    (hx : (scope.names.map (·.1)).take xs.length = xs) (hk : (scope.names.take xs.length).all (fun p : Str × NameKind => p.2 == NameKind.local || p.2 == NameKind.cell) = true) (nd : (scope.names.map (·.1)).Nodup) (hl : xs.length = l.length)
    (hb : ∀ (s : Shared) (bad : Addr → Prop) vs, c.G.StaysIn s.heap → Reps prog w s.heap bad l0 vs → ∃ us, BindsTo s (fnOf name qual params body scope dV kV doc pm an cdv ct) ⟨vs, []⟩ (xs.zip us) ∧ Reps prog w s.heap bad l us)
    (hco : scope.isCoroutine = false) (hgen : scope.isGenerator = false) (hfk : scope.kind = .function)
    (h : ∀ L cells, Xs c n (envX qual scope L f cdv cells) body (ρ0 scope l) σ (Back Q))
    {A : Around} {X : Addr → Prop} {s : Shared} {vs : List Value} (rm : Room (n + 1) A) (S : Sat prog w c.G X s.heap σ) (rv0 : Reps prog w s.heap (Bad X σ) l0 vs) :
    codeAny (model prog w) A (.call (.ref f) ⟨vs, []⟩) (fun r s' => match r with | .ok (.ret v) => CPost c X s σ Q v s' | .ok _ => False | .error e => NoE e s') s := by
  obtain ⟨us, hbind, rv⟩ := hb s _ vs S.gr rv0
  have hKs : K.In s.heap := c.X.keeps S.gr
  have hlv : xs.length = us.length := hl.trans rv.length.symm
  refine codeAny_call_function rm.depth_lt (hKs _ _ ho) rfl hco hgen rfl (codeRec_of hKs hcd) (hbind _ _ _ _ ?_)
  have hidx : ∀ (i : Nat) x v, xs[i]? = some x → us[i]? = some v → (x, v) ∈ xs.zip us := fun i x v h1 h2 => List.mem_of_getElem? (i := i) (by rw [List.getElem?_zip_eq_some]; exact ⟨h1, h2⟩)
  have hxi : ∀ (i : Nat) x (k : NameKind), i < xs.length → scope.names[i]? = some (x, k) → xs[i]? = some x := fun i x k hi e => by
    rw [← hx, List.getElem?_take_of_lt hi, List.getElem?_map, e]; rfl
  have hxk : ∀ (i : Nat) x, xs[i]? = some x → ∃ k : NameKind, scope.names[i]? = some (x, k) ∧ (k = .local ∨ k = .cell) := fun i x e => by
    have hi : i < xs.length := (List.getElem?_eq_some_iff.mp e).1
    rw [← hx, List.getElem?_take_of_lt hi, List.getElem?_map] at e
    cases q : scope.names[i]? with
    | none => rw [q] at e; cases e
    | some p =>
      obtain ⟨y, k⟩ := p
      rw [q] at e
      cases e
      refine ⟨k, rfl, ?_⟩
      have := List.all_eq_true.mp hk (y, k) (List.mem_of_getElem? (i := i) (by rw [List.getElem?_take_of_lt hi]; exact q))
      simpa using this
  refine wpAny_newFunctionEnv_cells hfk (fun y hy => ?_) fun env he s₁ IC => ?_
  · obtain ⟨i, hi⟩ := get_mem_idx hy
    rw [List.getElem?_zip_eq_some] at hi
    obtain ⟨k, h1, h2⟩ := hxk i y.1 hi.1
    have hlk := lookup_nd nd h1
    rcases h2 with rfl | rfl
    · exact .inl hlk
    · exact .inr ⟨hlk, cellsFrom_some _ _ _ (.inl hlk)⟩
  subst he
  generalize hcs : cellsFrom (s.heap.objs.size + 1) scope.names [] = cs at IC ⊢
  obtain ⟨⟨⟨h₁, tk₁, rfl⟩, hns, hkeep, _⟩, hcell, hap, hab⟩ := IC
  have hsame : newEnv scope s.heap.objs.size mainGlobals cs (qual ++ ".<locals>.") (some f) cdv none builtinsNs = envX qual scope s.heap.objs.size f cdv cs := rfl
  have hst : s.heap.StaysIn h₁ := hkeep
  refine ⟨(c.T.nolimit.keeps S.gr).keeps hst, codeAny_func ?_⟩
  show wpAny _ (A.deeper (envX qual scope s.heap.objs.size f cdv cs)) (execs body (envX qual scope s.heap.objs.size f cdv cs)) _ _ _
  change h₁.Ns s.heap.objs.size (bindL (envX qual scope s.heap.objs.size f cdv cs).kindOf (xs.zip us) fun _ => none) at hns
  change ∀ (n : Str) (a : Addr), cs.lookup n = some a → h₁.IsCell a (bindC (envX qual scope s.heap.objs.size f cdv cs).kindOf (xs.zip us) (fun _ => none) n) at hcell
  change ∀ (n : Str) (a : Addr), (n, a) ∈ cs → s.heap.objs.size < a at hab
  generalize henv : envX qual scope s.heap.objs.size f cdv cs = env at hns hcell ⊢
  have hsc : env.scope = scope := by subst henv; rfl
  have hlo : env.locals = s.heap.objs.size := by subst henv; rfl
  have hce : env.cells = cs := by subst henv; rfl
  have hfr : env.frame = some env.locals := by subst henv; rfl
  have hY : ∀ a, Own env a → s.heap.get? a = none := fun a ha => by
    have : s.heap.objs.size ≤ a := by
      rcases ha with e | ⟨_, x, _, e⟩
      · exact Nat.le_of_eq (hlo ▸ e.symm)
      · exact Nat.le_of_lt (hab _ _ (mem_of_lookup (hce ▸ e)))
    cases q : s.heap.get? a with
    | none => rfl
    | some o => exact absurd (Heap.lt_size q) (Nat.not_lt.mpr this)
  have hlive : ∀ a, Own env a → ∃ o, h₁.get? a = some o := fun a ha => by
    rcases ha with e | ⟨_, x, _, e⟩
    · obtain ⟨o, _, _, ho, _⟩ := hns; exact ⟨o, by rw [e, hlo]; exact ho⟩
    · obtain ⟨o, ho, _⟩ := hcell x a (hce ▸ e); exact ⟨o, ho⟩
  have S₁ : Sat prog w c.G (fun a => X a ∨ Own env a) h₁ σ := S.more hst hY hlive
  have st := stay_more (X := X) (σ := σ) hst hY
  have rv₁ := rv.stay st
  have ndz : ((xs.zip us).map (·.1)).Nodup := by
    rw [List.map_fst_zip (Nat.le_of_eq hlv), ← hx]
    exact nd.sublist (List.take_sublist _ _)
  have R₁ : LRep prog w env (fun a => X a ∨ Own env a) h₁ (Bad (fun a => X a ∨ Own env a) σ) (ρ0 scope l) := by
    refine ⟨⟨hsc ▸ hfk, hsc ▸ nd, by subst henv; rfl, by subst henv; rfl, fun a ha => .inr ha, fun x y a h1 h2 => ?_, fun x a h1 h2 => ?_, fun x a h1 => ?_⟩, ⟨_, hlo ▸ hns, fun i x k pv hi hp => ?_⟩, fun x hx' => ?_⟩
    · exact apart_inj hap (mem_of_lookup (hce ▸ h1)) (mem_of_lookup (hce ▸ h2))
    · exact absurd (hab _ _ (mem_of_lookup (hce ▸ h1))) (by rw [h2, hlo]; exact Nat.lt_irrefl _)
    · have hm := mem_of_lookup (hce ▸ h1)
      rw [← hcs] at hm
      rcases cellsFrom_mem _ _ _ _ _ hm with z | z
      · exact .inr (.inr ⟨hfr, x, hsc ▸ z, h1⟩)
      · cases z
    · rw [hsc] at hi
      have hil : i < l.length := by
        by_cases q : i < l.length
        · exact q
        · unfold ρ0 at hp
          rw [List.getElem?_append_right (by rw [List.length_map]; (first | lia | omega))] at hp
          rw [List.getElem?_replicate] at hp
          split at hp <;> cases hp
      have hpl : l[i]? = some pv := by
        unfold ρ0 at hp
        rw [List.getElem?_append_left (by rw [List.length_map]; exact hil), List.getElem?_map] at hp
        cases q : l[i]? with
        | none => rw [q] at hp; cases hp
        | some z => rw [q] at hp; cases hp; rfl
      obtain ⟨v, hv, r⟩ := rv₁.get hpl
      refine ⟨v, r, ?_⟩
      have hxi' := hxi i x k (by (first | lia | omega)) hi
      have hmem := hidx i x v hxi' hv
      obtain ⟨k', hk1, hk2⟩ := hxk i x hxi'
      rw [hi] at hk1; cases hk1
      have hkf : env.kindOf x = some k := by show env.scope.names.lookup x = some k; rw [hsc]; exact lookup_nd nd hi
      rcases hk2 with rfl | rfl
      · exact .inl ⟨rfl, bindL_on _ hkf _ _ ndz hmem⟩
      · have hsome := cellsFrom_some (x := x) scope.names (s.heap.objs.size + 1) [] (.inl (lookup_nd nd hi))
        rw [hcs] at hsome
        obtain ⟨a, ha⟩ := Option.isSome_iff_exists.mp hsome
        refine .inr ⟨.inl rfl, a, hce ▸ ha, .inr (.inr ⟨hfr, x, hsc ▸ List.mem_of_getElem? hi, hce ▸ ha⟩), ?_⟩
        have := hcell x a ha
        rwa [bindC_on _ (by rw [hkf]; exact fun z => nomatch z) _ _ ndz hmem] at this
    · rw [hsc] at hx'
      obtain ⟨i, hi⟩ := get_mem_idx hx'
      have hsome := cellsFrom_some (x := x) scope.names (s.heap.objs.size + 1) [] (.inl (lookup_nd nd hi))
      rw [hcs] at hsome
      obtain ⟨a, ha⟩ := Option.isSome_iff_exists.mp hsome
      exact ⟨a, hce ▸ ha, .inr (.inr ⟨hfr, x, hsc ▸ hx', hce ▸ ha⟩), _, hcell x a ha⟩
  have hh := h s.heap.objs.size cs
  rw [henv] at hh
  refine wpAny_mono (hh _ _ { s with heap := h₁, toks := tk₁ } (rm.deeper (env := env)) S₁ R₁) (fun fl s₂ ⟨fv, ρ₂, σ₂, rf, S₂, R₂, x₂, q⟩ => ?_) fun _ _ x => x.elim
  have hXl : ∀ a, X a → (fun a => X a ∨ Own env a) a := fun _ z => .inl z
  have x₁₂ : Step NoF s σ s₂ σ₂ := by
    obtain ⟨h₂, tk₂, rfl⟩ := x₂.eq
    refine ⟨⟨h₂, tk₂, rfl⟩, fun a o e hn _ => x₂.keep a o (hst a o e) hn fun z => ?_, fun a h1 h2 => ?_⟩
    · rw [hY a z] at e; cases e
    · cases q' : s.heap.get? a with
      | none => rfl
      | some o => have := x₂.grow a h1 h2; rw [show h₁.get? a = some o from hst a o q'] at this; cases this
  cases fv with
  | next =>
    have : fl = .next := rf
    subst this
    exact ⟨.none, σ₂, Rep.none, S₂.less hXl, x₁₂, q⟩
  | brk => exact q.elim
  | cont => exact q.elim
  | ret p =>
    obtain ⟨v, rfl, r⟩ := rf
    exact ⟨p, σ₂, r.stay (stay_less hXl), S₂.less hXl, x₁₂, q⟩
noncomputable def Cc (c : Cx prog w K) (n : Nat) (f : Value) (l : List PV) (σ : Sto) (Q : PV → Sto → Prop) : Prop :=
  ∀ A X s vs, Room n A → Sat prog w c.G X s.heap σ → Reps prog w s.heap (Bad X σ) l vs → codeAny (model prog w) A (.call f ⟨vs, []⟩) (fun r s' => match r with | .ok (.ret v) => CPost c X s σ Q v s' | .ok _ => False | .error e => NoE e s') s
theorem Cc.ca {f : Value} {l : List PV} {Q : PV → Sto → Prop} (h : Cc c n f l σ Q) : Ca c n f l σ Q := fun A X s vs rm S rv => wpAny_call (h A X s vs rm S rv)
theorem Cc.def {f : Addr} {oc cdv ct dV kV doc pm : Value} {od an : Option Addr} {osl : Array (Option Value)} {name qual : Str} {params : Arguments} {body : List Stmt} {scope : Scope} {l0 l : List PV} {xs : List Str} {Q : PV → Sto → Prop}
    (ho : K.lookup f = some ⟨oc, od, .func (fnOf name qual params body scope dV kV doc pm an cdv ct), osl⟩) (hcd : codeIn K cdv qual = true)
    (hx : (scope.names.map (·.1)).take xs.length = xs) (hk : (scope.names.take xs.length).all (fun p : Str × NameKind => p.2 == NameKind.local || p.2 == NameKind.cell) = true) (nd : (scope.names.map (·.1)).Nodup) (hl : xs.length = l.length)
    (hb : ∀ (s : Shared) (bad : Addr → Prop) vs, c.G.StaysIn s.heap → Reps prog w s.heap bad l0 vs → ∃ us, BindsTo s (fnOf name qual params body scope dV kV doc pm an cdv ct) ⟨vs, []⟩ (xs.zip us) ∧ Reps prog w s.heap bad l us)
    (hco : scope.isCoroutine = false) (hgen : scope.isGenerator = false) (hfk : scope.kind = .function)
    (h : ∀ L cells, Xs c n (envX qual scope L f cdv cells) body (ρ0 scope l) σ (Back Q)) : Cc c (n + 1) (.ref f) l0 σ Q := fun A X s vs rm S rv =>
  code_def' ho hcd hx hk nd hl hb hco hgen hfk h rm S rv
end
noncomputable def noHeap : Heap := ⟨#[], {}⟩
theorem noHeap_get (a : Addr) : noHeap.get? a = none := rfl
noncomputable def restOf (h : Heap) (L : Addr) : List (Addr × Obj) := (List.range h.objs.size).filterMap fun a => if a = L then none else (h.get? a).map fun o => (a, o)
theorem mem_restOf {h : Heap} {L a : Addr} {o : Obj} (e : h.get? a = some o) (n : a ≠ L) : (a, o) ∈ restOf h L :=
  List.mem_filterMap.mpr ⟨a, List.mem_range.mpr (Heap.lt_size e), by rw [if_neg n, e]; rfl⟩
theorem of_restOf {h : Heap} {L : Addr} {p : Addr × Obj} (m : p ∈ restOf h L) : h.get? p.1 = some p.2 ∧ p.1 ≠ L := by
  obtain ⟨a, _, e⟩ := List.mem_filterMap.mp m
  split at e
  · cases e
  · rename_i n
    cases q : h.get? a with
    | none => rw [q] at e; cases e
    | some o => rw [q] at e; cases e; exact ⟨q, n⟩
theorem news_rest (h : Heap) (L : Addr) : News noHeap L h (restOf h L) := fun p hp => ⟨(of_restOf hp).1, (of_restOf hp).2, noHeap_get _⟩
theorem fr_rest {h : Heap} {L : Addr} {m : Str → Option Value} (hn : h.Ns L m) : Fr noHeap L h m := ⟨hn, fun b o e => (by rw [noHeap_get] at e; cases e), Nat.zero_le _⟩
noncomputable def othersOf (h : Heap) (L d : Addr) : List (Addr × Obj) := (restOf h L).filter fun p => p.1 != d
theorem othersOf_ne {h : Heap} {L d : Addr} : ∀ p ∈ othersOf h L d, p.1 ≠ d := fun p hp => by
  have := (List.mem_filter.mp hp).2
  simpa using this
theorem news_others {h : Heap} {L d : Addr} {o : Obj} (e : h.get? d = some o) (n : d ≠ L) : News noHeap L h ((d, o) :: othersOf h L d) := fun p hp => by
  rcases List.mem_cons.mp hp with rfl | hp
  · exact ⟨e, n, noHeap_get _⟩
  · exact news_rest h L p (List.mem_filter.mp hp).1
theorem mem_others {h : Heap} {L d a : Addr} {o : Obj} (e : h.get? a = some o) (n : a ≠ L) (n' : a ≠ d) : (a, o) ∈ othersOf h L d := List.mem_filter.mpr ⟨mem_restOf e n, by simpa using n'⟩
section
variable {prog : Program} {w : World} {K : Frag} {c : Cx prog w K} {n : Nat} {env : Env} {ρ ρ' : List (Option PV)} {σ : Sto}
theorem key_ne {x name : Str} {v : Value} {t : Tok} (hk : v = .str x t) (h : x ≠ name) : v.isStr name = false := by
  rw [hk]
  exact beq_eq_false_iff_ne.mpr h
theorem getL_tail {name : Str} {e : DictEntry} {es : List DictEntry} {v : Value} (h : e.key.isStr name = false) (ih : getL name es = some (some v)) : getL name (e :: es) = some (some v) := by
  unfold getL at ih ⊢
  rw [List.find?_cons, h]
  cases q : es.find? (·.key.isStr name) with
  | some e' => rw [q] at ih; exact ih
  | none =>
    rw [q] at ih
    dsimp only at ih
    split at ih <;> cases ih
theorem flds_get {P : Params} {name : Str} {v : Value} {ns : List Str} {vs : List Value} {es : List DictEntry} (h : Flds P ns vs es) : ∀ {j : Nat}, ns.Nodup → ns[j]? = some name → vs[j]? = some v → getL name es = some (some v) := by
  induction h with
  | nil => intro j _ e; cases e
  | @cons x ns u vs e es t hk _ hv _ ih =>
    intro j hn hj hv'
    cases j with
    | zero =>
      rw [List.getElem?_cons_zero] at hj hv'
      cases hj; cases hv'
      have : e.key.isStr name = true := by rw [hk]; exact beq_self_eq_true name
      unfold getL
      rw [List.find?_cons, this, ← hv]
    | succ j =>
      rw [List.getElem?_cons_succ] at hj hv'
      rw [List.nodup_cons] at hn
      exact getL_tail (key_ne hk fun z => hn.1 (z ▸ List.mem_of_getElem? hj)) (ih hn.2 hj hv')
theorem flds_noref {P : Params} {ns : List Str} {vs : List Value} {es : List DictEntry} (h : Flds P ns vs es) : es.any (·.refKey) = false := by
  induction h with
  | nil => rfl
  | cons hk _ _ _ ih =>
    rw [List.any_cons, ih]
    simp only [DictEntry.refKey, hk, Bool.or_self]
theorem flds_miss {P : Params} {name : Str} {ns : List Str} {vs : List Value} {es : List DictEntry} (h : Flds P ns vs es) : name ∉ ns → es.find? (·.key.isStr name) = none := by
  induction h with
  | nil => intro _; rfl
  | cons hk _ _ _ ih =>
    intro hn
    rw [List.mem_cons] at hn
    rw [List.find?_cons, key_ne hk fun z => hn (.inl z.symm)]
    exact ih fun z => hn (.inr z)
theorem getL_miss {P : Params} {name : Str} {ns : List Str} {vs : List Value} {es : List DictEntry} (h : Flds P ns vs es) (hn : name ∉ ns) : getL name es = some none := by
  unfold getL
  rw [flds_miss h hn]
  simp [flds_noref h]
theorem putL_new {name : Str} {hsh : Int} {key v : Value} : ∀ {es : List DictEntry}, es.find? (·.key.isStr name) = none → putL name hsh key v es = es ++ [⟨hsh, key, v⟩]
  | [], _ => rfl
  | e :: es, h => by
    rw [List.find?_cons] at h
    split at h
    · cases h
    · rename_i q
      unfold putL
      rw [if_neg (by rw [q]; exact Bool.false_ne_true), putL_new h]; rfl
theorem flds_app {P : Params} {name : Str} {t : Tok} {v : Value} {ns : List Str} {vs : List Value} {es : List DictEntry} (h : Flds P ns vs es) : Flds P (ns ++ [name]) (vs ++ [v]) (es ++ [⟨PyData.keyHash P name, .str name t, v⟩]) := by
  induction h with
  | nil => exact .cons rfl rfl rfl .nil
  | cons a b d _ ih => exact .cons a b d ih
theorem inst_of {h : Heap} {a C d : Addr} {es : List DictEntry} {m : Nat} (h1 : h.get? a = some (instObj C d)) (h2 : h.get? d = some (dictOf es m)) : InstAt h a (instObj C d) C (some (dictOf es m)) := ⟨h1, rfl, rfl, h2⟩
theorem Rep.handed {h : Heap} {bad : Addr → Prop} {p : PV} {v : Value} (r : Rep prog w h bad p v) : handedIn v = true := by
  cases p with
  | none => rw [r.none_inv]; rfl
  | bool b => rw [r.bool_inv]; rfl
  | int i => obtain ⟨t, rfl⟩ := r.int_inv; rfl
  | str i => obtain ⟨t, rfl⟩ := r.str_inv; rfl
  | «at» a => rw [r.at_inv]; rfl
  | self C d => obtain ⟨a, rfl, _⟩ := r.self_inv; rfl
  | tup l => obtain ⟨a, _, rfl, _⟩ := r.tup_inv; rfl
  | lst l => obtain ⟨a, _, _, rfl, _⟩ := r.lst_inv; rfl
  | obj C ns l => obtain ⟨a, _, _, _, _, rfl, _⟩ := r.obj_inv; rfl
  | dct ks l => obtain ⟨a, _, rfl, _⟩ := r.dct_inv; rfl
noncomputable def AttrOk (K : Frag) (C : Addr) (name : Str) : Prop := plainGet K C name = true ∧ hasDictIn K C = true ∧ ∃ attr, findIn K (.ref C) name = some attr ∧ noGet K attr = true
theorem De.attr {o : PySem.Expr} {name : Str} {pos : Pos} {C : Addr} {ns : List Str} {l : List PV} {j : Nat} {p : PV} (ho : De c n env ρ σ o (.obj C ns l)) (hk : AttrOk K C name) (hn : ns.Nodup) (hj : ns[j]? = some name) (hp : l[j]? = some p)
    (he : eval (.Attribute o name pos) env = (do let v ← eval o env; standAt pos.atName; let r ← holding [v] (getAttr v name true); letTemporaryGo o v r; pure r) := by rfl) : De c n env ρ σ (.Attribute o name pos) p := fun A X s rm S R => by
  refine Attribute_any_ (Ev.then ho rm S R fun v s₁ pv σ₁ rv S₁ R₁ x₁ e => ?_) he
  obtain ⟨rfl, rfl⟩ := e
  obtain ⟨a, d, es, m, vs, rfl, hb, hb', h1, h2, hf, rl⟩ := rv.obj_inv
  obtain ⟨u, hu, ru⟩ := rl.get hp
  obtain ⟨k1, k2, attr, k3, k4⟩ := hk
  exact get_value (c.X.keeps S₁.gr) (inst_of h1 h2) (plainGet_of k1).1 (findObj_own k2 k3 k4 (flds_get hf hn hj hu)) ru.handed ((EPost.now S₁ R₁ ru ⟨rfl, rfl⟩).after x₁ S₁ R.ok)
noncomputable def MethOk (K : Frag) (C : Addr) (name : Str) (f : Addr) : Prop := plainGet K C name = true ∧ findIn K (.ref C) name = some (some (.ref f)) ∧ isFn K (.ref f) = true ∧ keepIn K (.ref f) = true
theorem Ev.meth {o e : PySem.Expr} {es : List PySem.Expr} {name : Str} {apos pos : Pos} {C f : Addr} {ns : List Str} {l : List PV} {pl : Sem Bool} {Q : PV → Sto → Prop} (ho : De c n env ρ σ o (.obj C ns l)) (hk : MethOk K C name f) (hn : name ∉ ns)
    (h : Es c n env (e :: es) ρ σ fun as σ₁ => Ca c n (.ref f) (.obj C ns l :: as) σ₁ Q)
    (he : starEach (e :: es) env = (false, eval e env) :: starEach es env := by rfl) (hp : (backTo pos (starEach es env)).any (·.1) = false := by rfl)
    (hc : eval ((o.Attribute name apos).Call (e :: es) [] pos) env = (do let ov ← eval o env; standAt apos.atName; let (f, first) ← holding [ov] (getMethod ov name pl); callWith pos f first (backTo pos (starEach (e :: es) env)) []) := by rfl) :
    Ev c n env ((o.Attribute name apos).Call (e :: es) [] pos) ρ σ Q := fun A X s rm S R => by
  refine MethodCall_ (Ev.then ho rm S R fun v s₁ pv σ₁ rv S₁ R₁ x₁ e => ?_) hc
  obtain ⟨rfl, rfl⟩ := e
  obtain ⟨a, d, es', m, vs, rfl, hb, hb', h1, h2, hf, rl⟩ := rv.obj_inv
  obtain ⟨k1, k2, k3, k4⟩ := hk
  have hKs := c.X.keeps S₁.gr
  refine method_fn hKs (inst_of h1 h2) (plainGet_of k1).1 (plainGet_of k1).2 k2 (beq_iff_eq.mp k3) (by show (lookIn name (dictOf es' m)).map _ = _; rw [lookIn_dict, getL_miss hf hn]; rfl) ?_
  refine callWith_K hKs k4 ?_ he hp
  refine wpAny_mono (h A X s₁ pos rm S₁ R₁) (fun us s₂ ⟨as, σ₂, ra, S₂, R₂, x₂, q⟩ => ⟨c.X.keeps S₂.gr, ?_⟩) fun _ _ x => x
  have x₁₂ := x₁.trans x₂ S₁ R.ok.own
  refine wpAny_mono (q A X s₂ (.ref a :: us) rm S₂ (Reps.cons (rv.stay (x₂.stay R.ok.own)) ra)) (fun v s₃ ⟨pv, σ₃, r₃, S₃, x₃, q₃⟩ => ?_) fun _ _ x => x
  exact ⟨pv, σ₃, r₃, S₃, R₂.step S₂ x₃, x₁₂.trans (x₃.mono nof_own) S₂ R.ok.own, q₃⟩
theorem De.meth {o e : PySem.Expr} {es : List PySem.Expr} {name : Str} {apos pos : Pos} {C f : Addr} {ns : List Str} {l as : List PV} {pl : Sem Bool} {p : PV} (ho : De c n env ρ σ o (.obj C ns l)) (hk : MethOk K C name f) (hn : name ∉ ns)
    (hes : Ds c n env ρ σ (e :: es) as) (h : Dc c n (.ref f) (.obj C ns l :: as) σ p)
    (he : starEach (e :: es) env = (false, eval e env) :: starEach es env := by rfl) (hp : (backTo pos (starEach es env)).any (·.1) = false := by rfl)
    (hc : eval ((o.Attribute name apos).Call (e :: es) [] pos) env = (do let ov ← eval o env; standAt apos.atName; let (f, first) ← holding [ov] (getMethod ov name pl); callWith pos f first (backTo pos (starEach (e :: es) env)) []) := by rfl) :
    De c n env ρ σ ((o.Attribute name apos).Call (e :: es) [] pos) p := Ev.meth ho hk hn (hes.es h) he hp hc
theorem De.meth0 {o : PySem.Expr} {name : Str} {apos pos : Pos} {C f : Addr} {ns : List Str} {l : List PV} {pl : Sem Bool} {p : PV} (ho : De c n env ρ σ o (.obj C ns l)) (hk : MethOk K C name f) (hn : name ∉ ns)
    (h : Dc c n (.ref f) [.obj C ns l] σ p)
    (hc : eval ((o.Attribute name apos).Call [] [] pos) env = (do let ov ← eval o env; standAt apos.atName; let (f, first) ← holding [ov] (getMethod ov name pl); callWith pos f first (backTo pos (starEach [] env)) []) := by rfl) :
    De c n env ρ σ ((o.Attribute name apos).Call [] [] pos) p := fun A X s rm S R => by
  refine MethodCall_ (Ev.then ho rm S R fun v s₁ pv σ₁ rv S₁ R₁ x₁ e => ?_) hc
  obtain ⟨rfl, rfl⟩ := e
  obtain ⟨a, d, es', m, vs, rfl, hb, hb', h1, h2, hf, rl⟩ := rv.obj_inv
  obtain ⟨k1, k2, k3, k4⟩ := hk
  have hKs := c.X.keeps S₁.gr
  refine method_fn hKs (inst_of h1 h2) (plainGet_of k1).1 (plainGet_of k1).2 k2 (beq_iff_eq.mp k3) (by show (lookIn name (dictOf es' m)).map _ = _; rw [lookIn_dict, getL_miss hf hn]; rfl) ?_
  refine callWith_K0 hKs k4 ?_
  refine wpAny_mono (h A X s₁ ([.ref a] ++ []) rm S₁ (Reps.cons rv Reps.nil)) (fun v s₃ ⟨pv, σ₃, r₃, S₃, x₃, q₃⟩ => ?_) fun _ _ x => x
  exact ⟨pv, σ₃, r₃, S₃, R₁.step S₁ x₃, x₁.trans (x₃.mono nof_own) S₁ R.ok.own, q₃⟩
noncomputable def SetOk (K : Frag) (C : Addr) (name : Str) : Prop :=
  findIn K (.ref C) "__setattr__" = some (some (.builtin "object.__setattr__")) ∧ plainOver K C = true ∧ takerIn K C name = some none ∧ hasDictIn K C = true
theorem stay_updC {X C : Addr → Prop} {h h' : Heap} {σ : Sto} {a : Addr} {b : Box} (hk : ∀ x o, h.get? x = some o → x ≠ a → ¬ C x → h'.get? x = some o) (hC : ∀ x, C x → X x) (hn : σ a ≠ none ∨ h.get? a = none) : Stay h (Bad X σ) h' (Bad X (σ.upd a b)) := by
  have ne : ∀ x o, h.get? x = some o → ¬ Bad X σ x → x ≠ a := fun x o e hb z => by
    subst z
    rcases hn with hn | hn
    · exact hb (.inr hn)
    · rw [hn] at e; cases e
  refine ⟨fun x o e hb => hk x o e (ne x o e hb) fun z => hb (.inl (hC x z)), fun x o e hb hb' => ?_⟩
  rcases hb' with z | z
  · exact hb (.inl z)
  · have : σ.upd a b x = σ x := if_neg (ne x o e hb)
    rw [this] at z
    exact hb (.inr z)
theorem Sat.updC {G : Heap} {X C : Addr → Prop} {h h' : Heap} {σ : Sto} {a : Addr} {b : Box} (S : Sat prog w G X h σ) (hk : ∀ x o, h.get? x = some o → x ≠ a → ¬ C x → h'.get? x = some o) (hC : ∀ x, C x → X x) (hp : ∀ x, C x → ∃ o, h'.get? x = some o) (hn : σ a ≠ none ∨ h.get? a = none)
    (r : BoxRep prog w h' (Bad X (σ.upd a b)) a b) : Sat prog w G X h' (σ.upd a b) := by
  have nX : ¬ X a := fun z => by
    rcases hn with hn | hn
    · exact hn (S.gx a z).1
    · obtain ⟨o, ho⟩ := (S.gx a z).2.2; rw [hn] at ho; cases ho
  have nG : G.get? a = none := by
    rcases hn with hn | hn
    · cases q : σ a with
      | none => exact absurd q hn
      | some b' => exact (S.gs a b' q).1
    · cases q : G.get? a with
      | none => rfl
      | some o => rw [S.gr a o q] at hn; cases hn
  refine ⟨fun x o e => hk x o (S.gr x o e) (fun z => ?_) fun z => ?_, fun x hx => ⟨?_, (S.gx x hx).2.1, ?_⟩, fun x b' e => ?_⟩
  · subst z; rw [nG] at e; cases e
  · have := (S.gx x (hC x z)).2.1; rw [e] at this; cases this
  · show (if x = a then some b else σ x) = none
    rw [if_neg fun z : x = a => nX (z ▸ hx)]; exact (S.gx x hx).1
  · by_cases hc : C x
    · exact hp x hc
    · obtain ⟨o, ho⟩ := (S.gx x hx).2.2
      exact ⟨o, hk x o ho (fun z => nX (z ▸ hx)) hc⟩
  · by_cases hx : x = a
    · subst hx
      have : σ.upd x b x = some b := if_pos rfl
      rw [this] at e
      cases e
      exact ⟨nG, r⟩
    · have : σ.upd a b x = σ x := if_neg hx
      rw [this] at e
      have q := S.gs x b' e
      obtain ⟨o, ho⟩ := q.2.live
      exact ⟨q.1, q.2.stay (stay_updC hk hC hn) (by rw [ho]; exact hk x o ho hx fun z => by have := (S.gx x (hC x z)).1; rw [e] at this; cases this)⟩
theorem step_updC {F C : Addr → Prop} {s : Shared} {σ : Sto} {a : Addr} {b : Box} {h' : Heap} {tk : Nat} (hk : ∀ x o, s.heap.get? x = some o → x ≠ a → ¬ C x → h'.get? x = some o) (hC : ∀ x, C x → F x) (hn : σ a ≠ none ∨ s.heap.get? a = none) : Step F s σ { s with heap := h', toks := tk } (σ.upd a b) := by
  refine ⟨⟨h', tk, rfl⟩, fun x o e hx hF => hk x o e (fun z => ?_) fun z => hF (hC x z), fun x h1 h2 => ?_⟩
  · subst z
    rcases hn with hn | hn
    · exact hn hx
    · rw [hn] at e; cases e
  · by_cases hx : x = a
    · subst hx
      rcases hn with hn | hn
      · exact absurd h2 hn
      · exact hn
    · have : σ.upd a b x = σ x := if_neg hx
      rw [this] at h1; exact absurd h2 h1
theorem LRep.updC {X : Addr → Prop} {h h' : Heap} {bad bad' : Addr → Prop} {m : Str → Option Value} (R : LRep prog w env X h bad ρ) (st : Stay h bad h' bad') (hm : h'.Ns env.locals m)
    (hv : ∀ (i : Nat) x k pv, env.scope.names[i]? = some (x, k) → ρ[i]? = some (some pv) → ∃ v, Rep prog w h bad pv v ∧ HeldAt env X h m x k v) (hx : ∀ x a o, env.cells.lookup x = some a → h.get? a = some o → h'.get? a = some o) : LRep prog w env X h' bad' ρ := by
  refine ⟨R.ok, ⟨m, hm, fun i x k pv hi hp => ?_⟩, fun x hx' => let ⟨a, h1, h2, v, o, h3, h4⟩ := R.cl x hx'; ⟨a, h1, h2, v, o, hx x a o h1 h3, h4⟩⟩
  obtain ⟨v, r, hh⟩ := hv i x k pv hi hp
  refine ⟨v, r.stay st, ?_⟩
  rcases hh with hh | ⟨hk, cc, h1, h2, o, h3, h4⟩
  · exact .inl hh
  · exact .inr ⟨hk, cc, h1, h2, o, hx x cc o h1 h3, h4⟩
theorem Ex.setAttr {o e : PySem.Expr} {name : Str} {apos pos : Pos} {C d : Addr} {ns : List Str} {l : List PV} {Q : FV → List (Option PV) → Sto → Prop} (hv : Ev c n env e ρ σ fun p σ₁ => (σ₁ d = some (.flds ns l) ∧ De c n env ρ σ₁ o (.self C d)) ∧ Q .next ρ (σ₁.upd d (.flds (ns ++ [name]) (l ++ [p]))))
    (hk : SetOk K C name) (hn : name ∉ ns) (hz : ns.length ≤ 100) (hs : swapsWith e (some (.Attribute o name apos)) pos.line env = pure false := by rfl) : Ex c n env (.Assign [.Attribute o name apos] e pos) ρ σ Q := fun A X s rm S R => by
  refine plainObj_wpAny_Assign_Attribute (Ev.then hv rm S R fun v s₁ p σ₁ rv S₁ R₁ x₁ q => ?_) hs
  obtain ⟨⟨hd, hself⟩, q⟩ := q
  refine Ev.then hself rm S₁ R₁ fun ov s₂ po σ₂ ro S₂ R₂ x₂ e => ?_
  obtain ⟨rfl, rfl⟩ := e
  have rv₂ := rv.stay (x₂.stay R.ok.own)
  have x₁₂ := x₁.trans x₂ S₁ R.ok.own
  obtain ⟨a, rfl, hb, h1⟩ := ro.self_inv
  obtain ⟨es, m, vs, h2, hf, rl⟩ := (S₂.gs d _ hd).2
  obtain ⟨mm, hns, hval⟩ := R₂.ns
  have hX := R₂.ok.own _ (.inl rfl)
  have dL : d ≠ env.locals := fun z => by have := (S₂.gx _ hX).1; rw [← z, hd] at this; cases this
  have hmiss := flds_miss hf hn
  have hlen : es.length ≤ 100 := by have := hf.length; (first | lia | omega)
  refine set_plain (c.X.keeps S₂.gr) (inst_of h1 h2) hk.1 (osa_dict (s := { s₂ with toks := s₂.toks + 1 }) (pre := []) (post := othersOf s₂.heap env.locals d) (od := dictOf es m) (od' := dictOf (es ++ [⟨PyData.keyHash w.params name, .str name (s₂.toks + 1), v⟩]) (m + 1)) (fr_rest hns) (news_others h2 dL) (c.X.keeps S₂.gr) (inst_of h1 h2) rfl hk.2.1 hk.2.2.1 hk.2.2.2
    (by rw [lookIn_dict, getL_miss hf hn]; rfl) (fun _ hp => nomatch hp) othersOf_ne ?_ rfl (by rw [List.length_append, List.length_singleton]; (first | lia | omega)) fun h' F' N' => ?_)
  · rw [putName_dict, putL_new hmiss]
    unfold putN
    have : es.any (fun x => x.key.isStr name) = false := by
      rw [List.any_eq_false]
      intro x hx
      exact List.find?_eq_none.mp hmiss x hx
    rw [this]; rfl
  · have hk' : ∀ x o, s₂.heap.get? x = some o → x ≠ d → ¬ (x = env.locals) → h'.get? x = some o := fun x o e n1 n2 => (N' (x, o) (.tail _ (mem_others e n2 n1))).1
    have hC : ∀ x, x = env.locals → X x := fun x e => e ▸ hX
    have hn' : σ₂ d ≠ none ∨ s₂.heap.get? d = none := .inl (by rw [hd]; exact fun z => nomatch z)
    have st := stay_updC (b := .flds (ns ++ [name]) (l ++ [p])) hk' hC hn'
    refine ⟨.next, ρ, _, rfl, S₂.updC (b := .flds (ns ++ [name]) (l ++ [p])) hk' hC (fun x e => ?_) hn' ⟨_, _, vs ++ [v], (N' _ (.head _)).1, flds_app hf, (rl.stay st).append (Reps.cons (rv₂.stay st) Reps.nil)⟩, R₂.updC st F'.ns hval fun y x o hx e => hk' x o e (fun z => ?_) (R₂.ok.nl y x hx), x₁₂.trans (step_updC hk' (fun x e => .inl e) hn') S₂ R.ok.own, q⟩
    · obtain ⟨ob, _, _, ho, _⟩ := F'.ns; exact ⟨ob, e ▸ ho⟩
    · have := (S₂.gx x (R₂.ok.cx y x hx)).1; rw [z, hd] at this; cases this
theorem Ca.make {C fI : Addr} {l : List PV} {Q : PV → Sto → Prop} (hm : makesIn K C = true) (hi : findIn K (.ref C) "__init__" = some (some (.ref fI))) (hf : typeIn K (.ref fI) = some (.type "function"))
    (h : ∀ d, σ d = none → Cc c n (.ref fI) (.self C d :: l) (σ.upd d (.flds [] [])) fun p σ₁ => p = .none ∧ ∃ ns l', σ₁ d = some (.flds ns l') ∧ Q (.obj C ns l') (σ₁.drop d)) :
    Ca c (n + 1) (.ref C) l σ Q := fun A X s vs rm S rv => by
  refine wpAny_call ?_
  have hK := c.X.keeps S.gr
  obtain ⟨hh, g, dd, t, os⟩ := s
  refine make_core (makes_of hK hm) (looks_findIn hK hi) (fun self => bind_fn hK self hf) (.inl rfl) ?_
  change Sat prog w c.G X hh σ at S
  change Reps prog w hh (Bad X σ) l vs at rv
  have hs1 : hh.StaysIn (hh.push emptyDict) := push_stays _ _
  have hd1 : (hh.push emptyDict).get? hh.objs.size = some emptyDict := Heap.get?_push_size _ rfl
  have nd : σ hh.objs.size = none := fresh_sto S (size_none _)
  have hk : ∀ x o, hh.get? x = some o → x ≠ hh.objs.size → (hh.push emptyDict).get? x = some o := fun x o e _ => hs1 x o e
  have hn : σ hh.objs.size ≠ none ∨ hh.get? hh.objs.size = none := .inr (size_none _)
  have st1 := stay_upd (X := X) (b := .flds [] []) hk hn
  have S1 : Sat prog w c.G X (hh.push emptyDict) (σ.upd hh.objs.size (.flds [] [])) := S.upd (b := .flds [] []) hk hn ⟨[], 0, [], hd1, .nil, Reps.nil⟩
  have hs2 : (hh.push emptyDict).StaysIn ((hh.push emptyDict).push (instObj C hh.objs.size)) := push_stays _ _
  have S2 := S1.ext hs2
  have hx : (hh.push emptyDict).objs.size = hh.objs.size + 1 := Heap.size_push _ _
  have ha : ((hh.push emptyDict).push (instObj C hh.objs.size)).get? (hh.objs.size + 1) = some (instObj C hh.objs.size) := by
    rw [← hx]; exact Heap.get?_push_size _ rfl
  have gnew : ¬ Bad X (σ.upd hh.objs.size (.flds [] [])) (hh.objs.size + 1) := by rw [← hx]; exact good_new S1
  have rself : Rep prog w ((hh.push emptyDict).push (instObj C hh.objs.size)) (Bad X (σ.upd hh.objs.size (.flds [] []))) (.self C hh.objs.size) (.ref (hh.objs.size + 1)) := by
    simp only [Rep]; exact ⟨_, rfl, gnew, ha⟩
  have rm' : Room n (A.under (.builtin "type.__call__" ⟨.ref C :: vs, []⟩)) := by
    refine ⟨?_, ?_, rm.handled⟩
    · have := rm.depth; show A.depth + 1 + 4 * n < 950; (first | lia | omega)
    · have := rm.units
      have hu : (Code.builtin "type.__call__" ⟨.ref C :: vs, []⟩).cUnits = 1 := rfl
      show A.units + (Code.builtin "type.__call__" ⟨.ref C :: vs, []⟩).cUnits + 16 * n + 64 < 9900
      rw [hu]; (first | lia | omega)
  refine codeAny_mono (h hh.objs.size nd _ X ⟨(hh.push emptyDict).push (instObj C hh.objs.size), g, dd, t, os⟩ (.ref (hh.objs.size + 1) :: vs) rm' S2 (Reps.cons rself (rv.stay (⟨fun x o e hb => hs2 x o (st1.get x o e hb), st1.good⟩)))) fun r s' z => ?_
  rcases r with e | (_ | _ | _ | v)
  · exact z
  · exact z
  · exact z
  · exact z
  · obtain ⟨pv, σ₁, r₁, S₁, x₁, rfl, ns, l', hd, q⟩ := z
    have hne : ¬ (σ.upd hh.objs.size (.flds [] [])) (hh.objs.size + 1) ≠ none := fun z => gnew (.inr z)
    have hn1 : (σ.upd hh.objs.size (.flds [] [])) (hh.objs.size + 1) = none := by
      cases q' : (σ.upd hh.objs.size (.flds [] [])) (hh.objs.size + 1) with
      | none => rfl
      | some b => exact absurd (by rw [q']; exact fun z => nomatch z) hne
    obtain ⟨es, m, us, h2, hf, rl⟩ := (S₁.gs _ _ hd).2
    have ha' := x₁.keep _ _ ha hn1 fun z => z
    have sub := sub_drop σ₁ hh.objs.size
    refine ⟨r₁.none_inv, .obj C ns l', σ₁.drop hh.objs.size, ?_, S₁.sub sub, ?_, q⟩
    · simp only [Rep]
      refine ⟨_, _, es, m, us, rfl, fun hb => ?_, fun hb => ?_, ha', h2, hf, rl.stay (stay_sub sub)⟩
      · exact (x₁.stay (X := X) fun _ z => z.elim).good _ _ ha gnew (bad_sub sub hb)
      · rcases hb with z | z
        · have := (S₁.gx _ z).1; rw [hd] at this; cases this
        · exact z (if_pos rfl)
    · refine Step.sub ?_ sub
      have x₀ : Step NoF ⟨hh, g, dd, t, os⟩ σ ⟨(hh.push emptyDict).push (instObj C hh.objs.size), g, dd, t, os⟩ (σ.upd hh.objs.size (.flds [] [])) :=
        step_upd (s := ⟨hh, g, dd, t, os⟩) (tk := t) (fun x o e n => hs2 x o (hs1 x o e)) hn
      exact x₀.trans x₁ S2 fun _ z => z.elim
end
section
variable {prog : Program} {w : World} {K : Frag} {c : Cx prog w K} {n : Nat} {env : Env} {ρ ρ' : List (Option PV)} {σ : Sto}
structure Iter (c : Cx prog w K) (A : Around) (t : PySem.Expr) (I : Addr) (fp wr : List Addr) (items base : List PV) (bvs : List Value) (St : Nat → Heap → Prop) (Out : Nat → Heap → Heap → Value → Prop) : Prop where
  sub : ∀ b ∈ wr, b ∈ fp
  frame : ∀ i h h', St i h → (∀ b ∈ fp, ∀ o, h.get? b = some o → h'.get? b = some o) → St i h'
  live : ∀ i h, St i h → ∀ b ∈ wr, ∃ o, h.get? b = some o
  item : ∀ i (s : Shared) (Q : Value → Shared → Prop), i < items.length → St i s.heap →
    (∀ v h' tk, Out i s.heap h' v → St (i + 1) h' → (∀ b o, b ∉ wr → s.heap.get? b = some o → h'.get? b = some o) → Q v { s with heap := h', toks := tk }) →
    wpAny (model prog w) A (pyNext (.ref I)) (fun r s₁ => ∃ v, r = some v ∧ wpAny (model prog w) A (letOwnedTupleGo t (.ref I) v) (fun _ s₂ => Q v s₂) NoE s₁) NoE s
  done : ∀ (s : Shared) (Q : Option Value → Shared → Prop), St items.length s.heap →
    (∀ h' tk, (∀ b o, b ∉ wr → s.heap.get? b = some o → h'.get? b = some o) → Q none { s with heap := h', toks := tk }) → wpAny (model prog w) A (pyNext (.ref I)) Q NoE s
  again : ∀ i (s : Shared) (Q : Value → Shared → Prop), St i s.heap → Q (.ref I) s → wpAny (model prog w) A (pyIter (.ref I)) Q NoE s
  rep : ∀ i h h' v p (X : Addr → Prop) σ, Sat prog w c.G X h σ → (∀ b ∈ wr, X b) → Reps prog w h (Bad X σ) base bvs → (∀ b o, b ∉ wr → h.get? b = some o → h'.get? b = some o) → Out i h h' v → items[i]? = some p → Rep prog w h' (Bad X σ) p v
noncomputable def InL (l : List Addr) (a : Addr) : Prop := a ∈ l
noncomputable def And2 (X Y : Addr → Prop) (a : Addr) : Prop := X a ∨ Y a
inductive ItPost (c : Cx prog w K) (env : Env) (t : PySem.Expr) (A : Around) (X : Addr → Prop) (ρ : List (Option PV)) (s : Shared) (σ : Sto) (Q : List PV → Sto → Prop) (it : Value) (s' : Shared) : Prop
  | mk (I : Addr) (fp wr : List Addr) (items base : List PV) (bvs : List Value) (St : Nat → Heap → Prop) (Out : Nat → Heap → Heap → Value → Prop) (σ' : Sto) (e : it = .ref I) (W : Iter c A t I fp wr items base bvs St Out) (st : St 0 s'.heap) (S : Sat prog w c.G (And2 X (InL wr)) s'.heap σ')
    (R : LRep prog w env (And2 X (InL wr)) s'.heap (Bad (And2 X (InL wr)) σ') ρ) (rb : Reps prog w s'.heap (Bad (And2 X (InL wr)) σ') base bvs) (hf : ∀ b ∈ fp, b ∈ wr ∨ (¬ Bad (And2 X (InL wr)) σ' b ∧ ∃ o, s'.heap.get? b = some o)) (x : Step (Own env) s σ s' σ')
    (hw : ∀ b ∈ wr, ¬ X b ∧ ∀ o, s.heap.get? b = some o → σ b = none → ¬ Own env b → False) (q : Q items σ')
noncomputable def It (c : Cx prog w K) (n : Nat) (env : Env) (t e : PySem.Expr) (ρ : List (Option PV)) (σ : Sto) (Q : List PV → Sto → Prop) : Prop :=
  ∀ A X s, Room n A → Sat prog w c.G X s.heap σ → LRep prog w env X s.heap (Bad X σ) ρ → wpAny (model prog w) A (eval e env) (fun xv s₁ => wpAny (model prog w) A (pyIter xv) (ItPost c env t A X ρ s σ Q) NoE s₁) NoE s
noncomputable abbrev Turn (I : List (Option PV) → Sto → Prop) (Q : FV → List (Option PV) → Sto → Prop) : FV → List (Option PV) → Sto → Prop
  | .next, ρ, σ => I ρ σ
  | .cont, ρ, σ => I ρ σ
  | .brk, ρ, σ => Q .next ρ σ
  | .ret p, ρ, σ => Q (.ret p) ρ σ
noncomputable abbrev Join (I : List (Option PV) → Sto → Prop) (Q : FV → List (Option PV) → Sto → Prop) : FV → List (Option PV) → Sto → Prop
  | .next, ρ, σ => I ρ σ
  | f, ρ, σ => Q f ρ σ
noncomputable def Loop (c : Cx prog w K) (n : Nat) (env : Env) (t : PySem.Expr) (body : List Stmt) (Q : FV → List (Option PV) → Sto → Prop) : List PV → List (Option PV) → Sto → Prop
  | [], ρ, σ => Q .next ρ σ
  | p :: ps, ρ, σ => ∃ ρ₁, As c n env t p ρ ρ₁ ∧ Xs c n env body ρ₁ σ (Turn (fun ρ' σ' => Loop c n env t body Q ps ρ' σ') Q)
theorem Sat.endIt {G : Heap} {X W : Addr → Prop} {h h' : Heap} {σ : Sto} (S : Sat prog w G (And2 X W) h σ) (hk : ∀ a o, h.get? a = some o → ¬ W a → h'.get? a = some o) (hXW : ∀ a, X a → ¬ W a) : Sat prog w G X h' σ := by
  have st : Stay h (Bad (And2 X W) σ) h' (Bad X σ) := ⟨fun a o e hb => hk a o e fun z => hb (.inl (.inr z)), fun a o e hb hb' => hb (hb'.elim (fun z => .inl (.inl z)) .inr)⟩
  refine ⟨fun a o e => hk a o (S.gr a o e) fun z => ?_, fun a ha => ⟨(S.gx a (.inl ha)).1, (S.gx a (.inl ha)).2.1, ?_⟩, fun a b e => ⟨(S.gs a b e).1, ?_⟩⟩
  · have := (S.gx a (.inr z)).2.1; rw [e] at this; cases this
  · obtain ⟨o, ho⟩ := (S.gx a (.inl ha)).2.2
    exact ⟨o, hk a o ho (hXW a ha)⟩
  · have r := (S.gs a b e).2
    obtain ⟨o, ho⟩ := r.live
    refine r.stay st ?_
    rw [ho]
    exact hk a o ho fun z => by have := (S.gx a (.inr z)).1; rw [e] at this; cases this
theorem stay_endIt {X W : Addr → Prop} {h h' : Heap} {σ : Sto} (hk : ∀ a o, h.get? a = some o → ¬ W a → h'.get? a = some o) : Stay h (Bad (And2 X W) σ) h' (Bad X σ) :=
  ⟨fun a o e hb => hk a o e fun z => hb (.inl (.inr z)), fun a o e hb hb' => hb (hb'.elim (fun z => .inl (.inl z)) .inr)⟩
theorem LRep.endIt {X W : Addr → Prop} {h h' : Heap} {bad bad' : Addr → Prop} (R : LRep prog w env (And2 X W) h bad ρ) (st : Stay h bad h' bad') (hk : ∀ a o, h.get? a = some o → ¬ W a → h'.get? a = some o) (hXW : ∀ a, X a → ¬ W a) (hO : ∀ a, Own env a → X a) (hc : ∀ x a, env.cells.lookup x = some a → X a) : LRep prog w env X h' bad' ρ := by
  obtain ⟨m, hm, hv⟩ := R.ns
  have ok : EnvOk env X := ⟨R.ok.fn, R.ok.nd, R.ok.gl, R.ok.bi, hO, R.ok.inj, R.ok.nl, hc⟩
  refine ⟨ok, ⟨m, hm.at' fun o e => hk _ o e (hXW _ (hO _ (.inl rfl))), fun i x k pv hi hp => ?_⟩, fun x hx' => let ⟨a, h1, h2, v, o, h3, h4⟩ := R.cl x hx'; ⟨a, h1, hc x a h1, v, o, hk _ o h3 (hXW _ (hc x a h1)), h4⟩⟩
  obtain ⟨v, r, hh⟩ := hv i x k pv hi hp
  refine ⟨v, r.stay st, ?_⟩
  rcases hh with hh | ⟨hk', cc, h1, h2, o, h3, h4⟩
  · exact .inl hh
  · exact .inr ⟨hk', cc, h1, hc x cc h1, o, hk _ o h3 (hXW _ (hc x cc h1)), h4⟩
inductive ForInv (c : Cx prog w K) (n : Nat) (env : Env) (t : PySem.Expr) (body : List Stmt) (Q : FV → List (Option PV) → Sto → Prop) (X Y : Addr → Prop) (fp wr : List Addr) (items base : List PV) (bvs : List Value) (St : Nat → Heap → Prop) (s₂ : Shared) (σ₁ : Sto) (k : Nat) (s' : Shared) : Prop
  | mk (i : Nat) (ρ' : List (Option PV)) (σ' : Sto) (e : k = items.length + 1 - i) (hi : i ≤ items.length) (st : St i s'.heap) (S : Sat prog w c.G Y s'.heap σ') (R : LRep prog w env Y s'.heap (Bad Y σ') ρ') (rb : Reps prog w s'.heap (Bad Y σ') base bvs)
    (hf : ∀ b ∈ fp, b ∈ wr ∨ (¬ Bad Y σ' b ∧ ∃ o, s'.heap.get? b = some o)) (x : Step (And2 (Own env) (InL wr)) s₂ σ₁ s' σ') (hL : Loop c n env t body Q (items.drop i) ρ' σ')
theorem Ex.for {t iter : PySem.Expr} {body : List Stmt} {pos : Pos} {Q : FV → List (Option PV) → Sto → Prop} (h : It c n env t iter ρ σ fun items σ₁ => Loop c n env t body Q items ρ σ₁)
    (hs : ∀ x, foldedSetIterable iter env x = pure x := by intro _; rfl) : Ex c n env (.For t iter body [] pos) ρ σ Q := fun A X s rm S R => by
  refine wpAny_For (wpAny_mono (h A X s rm S R) (fun xv s₁ h₁ => wpAny_mono h₁ (fun it s₂ q => ?_) fun _ _ x => x.elim) fun _ _ x => x.elim) hs
  obtain ⟨I, fp, wr, items, base, bvs, St, Out, σ₁, rfl, W, st0, S₂, R₂, rb, hfp, x₂, hwr, hL⟩ := q
  have hXW : ∀ a, X a → ¬ InL wr a := fun a ha z => (hwr a z).1 ha
  have hO := R.ok.own
  have hcell : ∀ x a, env.cells.lookup x = some a → X a := R.ok.cx
  refine codeAny_forLoop_any
    (ForInv c n env t body Q X (And2 X (InL wr)) fp wr items base bvs St s₂ σ₁) ?_ (items.length + 1)
    ⟨0, ρ, σ₁, rfl, Nat.zero_le _, st0, S₂, R₂, rb, hfp, Step.refl _ _ _, hL⟩
  have hF : ∀ a, And2 (Own env) (InL wr) a → And2 X (InL wr) a := fun a z => z.elim (fun z => .inl (hO a z)) .inr
  have fin : ∀ {s' h' tk σ' ρ'} {f : Flow} {fv : FV}, Sat prog w c.G (And2 X (InL wr)) s'.heap σ' → LRep prog w env (And2 X (InL wr)) s'.heap (Bad (And2 X (InL wr)) σ') ρ' → Step (And2 (Own env) (InL wr)) s₂ σ₁ s' σ' → (∀ b o, b ∉ wr → s'.heap.get? b = some o → h'.get? b = some o) →
      FRep h' (Bad X σ') prog w fv f → Q fv ρ' σ' → SPost c env X s σ Q f { s' with heap := h', toks := tk } := by
    intro s' h' tk σ' ρ' f fv S' R' x' hk rf q
    have hk' : ∀ a o, s'.heap.get? a = some o → ¬ InL wr a → h'.get? a = some o := fun a o e z => hk a o z e
    have xx := (x₂.mono (F' := And2 (Own env) (InL wr)) fun a z => .inl z).trans x' S₂ hF
    obtain ⟨h₃, tk₃, rfl⟩ := xx.eq
    refine ⟨fv, ρ', σ', rf, S'.endIt hk' hXW, R'.endIt (stay_endIt hk') hk' hXW hO hcell, ⟨⟨h', tk, rfl⟩, fun a o e hn hno => ?_, fun a h1 h2 => ?_⟩, q⟩
    · have nw : ¬ InL wr a := fun z => (hwr a z).2 o e hn hno
      exact hk' a o (xx.keep a o e hn fun z => z.elim hno nw) nw
    · exact xx.grow a h1 h2
  rintro k s' ⟨i, ρ₁, σ', rfl, hi, sti, S', R', rb', hfp', x', hL'⟩
  by_cases hlt : i < items.length
  · refine wpAny_mono (W.item i s' (fun v s₃ => ∃ h' tk, s₃ = { s' with heap := h', toks := tk } ∧ Out i s'.heap h' v ∧ St (i + 1) h' ∧ (∀ b o, b ∉ wr → s'.heap.get? b = some o → h'.get? b = some o)) hlt sti fun v h' tk a b d => ⟨h', tk, rfl, a, b, d⟩) (fun r s₃ z => ?_) fun _ _ x => x.elim
    obtain ⟨v, rfl, z⟩ := z
    refine wpAny_mono z (fun _ s₄ z => ?_) fun _ _ x => x.elim
    obtain ⟨h₄, tk₄, rfl, hout, st₄, hk₄⟩ := z
    have hk₄' : ∀ a o, s'.heap.get? a = some o → ¬ InL wr a → h₄.get? a = some o := fun a o e z => hk₄ a o z e
    have hC : ∀ a, InL wr a → And2 X (InL wr) a := fun a z => .inr z
    have hp : items[i]? = some items[i] := List.getElem?_eq_getElem hlt
    have S₄ := S'.chg hk₄' hC (W.live _ _ st₄)
    have stay₄ := stay_chg (σ := σ') hk₄' hC
    have rv := W.rep i _ _ v _ _ _ S' (fun b hb => .inr hb) rb' hk₄ hout hp
    have R₄ : LRep prog w env (And2 X (InL wr)) h₄ (Bad (And2 X (InL wr)) σ') ρ₁ := by
      obtain ⟨m, hm, hv⟩ := R'.ns
      refine R'.updC stay₄ (hm.at' fun o e => hk₄' _ o e (hXW _ (hO _ (.inl rfl)))) hv fun x a o hx e => hk₄' a o e (hXW a (hcell x a hx))
    rw [← List.getElem_cons_drop hlt] at hL'
    obtain ⟨ρ₂, has, hbody⟩ := hL'
    have x₄ : Step (And2 (Own env) (InL wr)) s' σ' { s' with heap := h₄, toks := tk₄ } σ' := step_chg hk₄' fun a z => .inr z
    refine wpAny_mono (has A _ { s' with heap := h₄, toks := tk₄ } σ' v rm S₄ R₄ rv) (fun _ s₅ z => ?_) fun _ _ x => x.elim
    obtain ⟨S₅, R₅, x₅⟩ := z
    refine wpAny_mono (hbody A _ s₅ rm S₅ R₅) (fun f s₆ z => ?_) fun _ _ x => x.elim
    obtain ⟨fv, ρ₃, σ₃, rf, S₆, R₆, x₆, q⟩ := z
    have x₄₆ : Step (Own env) { s' with heap := h₄, toks := tk₄ } σ' s₆ σ₃ := x₅.trans x₆ S₅ R₅.ok.own
    have x'' := (x'.trans x₄ S' hF).trans (x₄₆.mono fun a z => .inl z) S₄ hF
    have nowr : ∀ b ∈ wr, ¬ Own env b := fun b hb z => hXW b (hO b z) hb
    have keep6 : ∀ b ∈ fp, ∀ o, h₄.get? b = some o → s₆.heap.get? b = some o := fun b hb o e => by
      rcases hfp' b hb with z | ⟨z, _⟩
      · exact x₄₆.keep b o e (S₄.gx b (.inr z)).1 (nowr b z)
      · refine x₄₆.keep b o e ?_ fun y => z (.inl (.inl (hO b y)))
        cases q : σ' b with
        | none => rfl
        | some _ => exact absurd (.inr (by rw [q]; exact fun y => nomatch y)) z
    have again : ∀ {ρ₃ σ₃}, Sat prog w c.G (And2 X (InL wr)) s₆.heap σ₃ → LRep prog w env (And2 X (InL wr)) s₆.heap (Bad (And2 X (InL wr)) σ₃) ρ₃ → Step (Own env) { s' with heap := h₄, toks := tk₄ } σ' s₆ σ₃ → Step (And2 (Own env) (InL wr)) s₂ σ₁ s₆ σ₃ → Loop c n env t body Q (items.drop (i + 1)) ρ₃ σ₃ →
        ∃ m, m < items.length + 1 - i ∧ ForInv c n env t body Q X (And2 X (InL wr)) fp wr items base bvs St s₂ σ₁ m s₆ := by
      intro ρ₃ σ₃ S₆ R₆ y y' hl
      have sty := y.stay (X := And2 X (InL wr)) fun a z => .inl (hO a z)
      refine ⟨items.length + 1 - (i + 1), by (first | lia | omega), i + 1, ρ₃, σ₃, rfl, hlt, W.frame _ _ _ st₄ keep6, S₆, R₆, (rb'.stay stay₄).stay sty, fun b hb => ?_, y', hl⟩
      rcases hfp' b hb with z | ⟨z, o, ho⟩
      · exact .inl z
      · have h4 := stay₄.get b o ho z
        exact .inr ⟨sty.good b o h4 (stay₄.good b o ho z), o, sty.get b o h4 (stay₄.good b o ho z)⟩
    cases fv with
    | next => have : f = .next := rf; subst this; exact again S₆ R₆ x₄₆ x'' q
    | cont => have : f = .cont := rf; subst this; exact again S₆ R₆ x₄₆ x'' q
    | brk =>
      have : f = .brk := rf
      subst this
      exact fin (s' := s₆) (h' := s₆.heap) (tk := s₆.toks) (fv := .next) S₆ R₆ x'' (fun _ _ _ e => e) rfl q
    | ret p =>
      obtain ⟨v', rfl, rv'⟩ := rf
      exact fin (s' := s₆) (h' := s₆.heap) (tk := s₆.toks) (fv := .ret p) S₆ R₆ x'' (fun _ _ _ e => e) ⟨v', rfl, rv'.stay (stay_endIt fun _ _ e _ => e)⟩ q
  · have hin : i = items.length := by (first | lia | omega)
    subst hin
    rw [List.drop_length] at hL'
    refine wpAny_mono (W.done s' (fun r s₁ => r = none ∧ ∃ h' tk, s₁ = { s' with heap := h', toks := tk } ∧ ∀ b o, b ∉ wr → s'.heap.get? b = some o → h'.get? b = some o) sti fun h' tk hk => ⟨rfl, h', tk, rfl, hk⟩) (fun r s₁ z => ?_) fun _ _ x => x.elim
    obtain ⟨rfl, h', tk, rfl, hk⟩ := z
    exact wpAny_execs_nil (fin (s' := s') (fv := .next) S' R' x' hk rfl hL')
end
section
variable {prog : Program} {w : World} {K : Frag} {c : Cx prog w K} {n : Nat} {env : Env} {ρ ρ' : List (Option PV)} {σ : Sto}
theorem letgo_plain {M : Model} {A : Around} {t : PySem.Expr} {I : Addr} {o : Obj} {T : String} {v : Value} {s : Shared} {Q : Unit → Shared → Prop} {E : Value → Shared → Prop} (ho : s.heap.get? I = some o) (hc : o.cls = .type T)
    (hT : (["enumerate", "zip", "dict_itemiterator", "dict_reverseitemiterator", "odict_iterator", "itertools.zip_longest", "itertools.pairwise"] : List String).contains T = false) (q : Q () s) : wpAny M A (letOwnedTupleGo t (.ref I) v) Q E s := by
  have key : ∀ a : Addr, wpAny M A (do
      let o ← load I
      match o.cls, o.data with
      | .type n, .fields vs =>
        if (["enumerate", "zip", "dict_itemiterator", "dict_reverseitemiterator", "odict_iterator", "itertools.zip_longest", "itertools.pairwise"] : List String).contains n && vs[0]? == some (rawInt a) then
          rule "for.unpacks-the-owned-tuple"
          updateField I 0 .none
      | _, _ => pure () : Sem Unit) Q E s := fun a => by
    refine wpAny_bind (wpAny_load ho ?_)
    rw [hc]
    cases o.data <;> first
      | exact wpAny_pure q
      | (dsimp only
         rw [hT, Bool.false_and]
         simp only [Bool.false_eq_true, if_false]
         exact wpAny_pure q)
  unfold letOwnedTupleGo
  cases t <;> first
    | exact wpAny_pure q
    | (cases v <;> first | exact wpAny_pure q | exact key _)
theorem stay_wr {X : Addr → Prop} {h h' : Heap} {σ : Sto} {wr : List Addr} (hX : ∀ b ∈ wr, X b) (hk : ∀ b o, b ∉ wr → h.get? b = some o → h'.get? b = some o) : Stay h (Bad X σ) h' (Bad X σ) :=
  stay_chg (C := InL wr) (fun a o e z => hk a o z e) hX
theorem iter_list {A : Around} {t : PySem.Expr} (hh : A.handled = none) {I ax : Addr} (hne : ax ≠ I) {l : List PV} {vs : List Value} {k : Nat} (hl : vs.length = l.length) :
    Iter c A t I [I, ax] [I] l l vs (fun i h => h.IsListIter I ax i ∧ h.IsList ax vs.toArray) (fun i _ _ v => vs[i]? = some v) := by
  have W := Walks.list (prog := prog) (w := w) hh I ax hne vs.toArray
  have hz : vs.toArray.size = l.length := by simp [hl]
  rw [hz] at W
  refine ⟨W.sub, W.frame, fun i h st b hb => ?_, fun i s Q hi st hQ => ?_, fun s Q st hQ => W.done s Q NoE st hQ, fun i s Q st q => W.self i s Q NoE st q, fun i h h' v p X σ S hX rb hk ho hp => ?_⟩
  · rw [List.mem_singleton.mp hb]
    obtain ⟨⟨o, ho, _⟩, _⟩ := st
    exact ⟨o, ho⟩
  · refine W.item i s _ NoE hi st fun v h' tk hP st' hk => ⟨v, rfl, ?_⟩
    obtain ⟨o, ho, hc, _⟩ := st'.1
    exact letgo_plain (s := { s with heap := h', toks := tk }) ho hc (by decide) (hQ v h' tk (by simpa using hP) st' hk)
  · obtain ⟨u, hu, r⟩ := rb.get hp
    rw [hu] at ho; cases ho
    exact r.stay (stay_wr hX hk)
theorem iter_tuple {A : Around} {t : PySem.Expr} (hh : A.handled = none) {I ax : Addr} (hne : ax ≠ I) {l : List PV} {vs : List Value} (hl : vs.length = l.length) :
    Iter c A t I [I, ax] [I] l l vs (fun i h => h.IsTupleIter I ax i ∧ h.IsTuple ax vs.toArray) (fun i _ _ v => vs[i]? = some v) := by
  have W := Walks.tuple (prog := prog) (w := w) hh I ax hne vs.toArray
  have hz : vs.toArray.size = l.length := by simp [hl]
  rw [hz] at W
  refine ⟨W.sub, W.frame, fun i h st b hb => ?_, fun i s Q hi st hQ => ?_, fun s Q st hQ => W.done s Q NoE st hQ, fun i s Q st q => W.self i s Q NoE st q, fun i h h' v p X σ S hX rb hk ho hp => ?_⟩
  · rw [List.mem_singleton.mp hb]
    obtain ⟨⟨o, ho, _⟩, _⟩ := st
    exact ⟨o, ho⟩
  · refine W.item i s _ NoE hi st fun v h' tk hP st' hk => ⟨v, rfl, ?_⟩
    obtain ⟨o, ho, hc, _⟩ := st'.1
    exact letgo_plain (s := { s with heap := h', toks := tk }) ho hc (by decide) (hQ v h' tk (by simpa using hP) st' hk)
  · obtain ⟨u, hu, r⟩ := rb.get hp
    rw [hu] at ho; cases ho
    exact r.stay (stay_wr hX hk)
noncomputable def nums (a : Int) (m : Nat) : List PV := (List.range m).map fun (i : Nat) => .int (a + (i : Int))
theorem nums_length (a : Int) (m : Nat) : (nums a m).length = m := by unfold nums; simp
theorem iter_range {A : Around} {t : PySem.Expr} (hh : A.handled = none) {I : Addr} {a : Int} {m : Nat} :
    Iter c A t I [I] [I] (nums a m) [] [] (fun i h => IsRangeIter h I (a + (i : Int) * 1) ((m : Int) - (i : Int)) 1) (fun i _ _ v => ∃ t, v = .int (a + (i : Int) * 1) t) := by
  have W := Walks.range (prog := prog) (w := w) hh I a 1 m
  refine ⟨W.sub, W.frame, fun i h st b hb => ?_, fun i s Q hi st hQ => ?_, fun s Q st hQ => ?_, fun i s Q st q => W.self i s Q NoE st q, fun i h h' v p X σ S hX rb hk ho hp => ?_⟩
  · rw [List.mem_singleton.mp hb]
    exact ⟨_, st⟩
  · rw [nums_length] at hi
    refine W.item i s _ NoE hi st fun v h' tk hP st' hk => ⟨v, rfl, ?_⟩
    exact letgo_plain (s := { s with heap := h', toks := tk }) st' rfl (by decide) (hQ v h' tk hP st' hk)
  · rw [nums_length] at st
    exact W.done s Q NoE st hQ
  · obtain ⟨t, rfl⟩ := ho
    have : p = .int (a + (i : Int)) := by
      unfold nums at hp
      rw [List.getElem?_map] at hp
      cases q : (List.range m)[i]? with
      | none => rw [q] at hp; cases hp
      | some j =>
        rw [q] at hp; cases hp
        have := List.getElem?_eq_some_iff.mp q
        obtain ⟨h1, h2⟩ := this
        simp at h2; subst h2; rfl
    subst this
    rw [Int.mul_one]; exact Rep.int
theorem it_start {t : PySem.Expr} {A : Around} {X : Addr → Prop} {s s₁ : Shared} {σ₁ : Sto} {Q : List PV → Sto → Prop} {I : Addr} {fp wr : List Addr} {items base : List PV} {bvs : List Value} {St : Nat → Heap → Prop} {Out : Nat → Heap → Heap → Value → Prop} {h' : Heap} {tk : Nat}
    (W : Iter c A t I fp wr items base bvs St Out) (hst : St 0 h') (S₁ : Sat prog w c.G X s₁.heap σ₁) (R₁ : LRep prog w env X s₁.heap (Bad X σ₁) ρ) (x₁ : Step (Own env) s σ s₁ σ₁) (hO : ∀ a, Own env a → X a) (rb : Reps prog w s₁.heap (Bad X σ₁) base bvs)
    (hk : s₁.heap.StaysIn h') (hw : ∀ b ∈ wr, s₁.heap.get? b = none) (hfp : ∀ b ∈ fp, b ∈ wr ∨ (¬ Bad X σ₁ b ∧ ∃ o, s₁.heap.get? b = some o)) (q : Q items σ₁) : ItPost c env t A X ρ s σ Q (.ref I) { s₁ with heap := h', toks := tk } := by
  have hl := W.live 0 h' hst
  have st : Stay s₁.heap (Bad X σ₁) h' (Bad (And2 X (InL wr)) σ₁) := stay_more (Y := InL wr) hk hw
  have S' : Sat prog w c.G (And2 X (InL wr)) h' σ₁ := S₁.more (Y := InL wr) hk hw hl
  refine ⟨I, fp, wr, items, base, bvs, St, Out, σ₁, rfl, W, hst, S', ?_, rb.stay st, fun b hb => ?_, x₁.trans (step_ext hk) S₁ hO, fun b hb => ⟨fun z => ?_, fun o e hn ho => ?_⟩, q⟩
  · obtain ⟨m, hm, hv⟩ := R₁.ns
    have ok : EnvOk env (And2 X (InL wr)) := ⟨R₁.ok.fn, R₁.ok.nd, R₁.ok.gl, R₁.ok.bi, fun a z => .inl (hO a z), R₁.ok.inj, R₁.ok.nl, fun x a e => .inl (R₁.ok.cx x a e)⟩
    refine ⟨ok, ⟨m, hm.keeps hk, fun i x k pv hi hp => ?_⟩, fun x hx => let ⟨a, h1, h2, v, o, h3, h4⟩ := R₁.cl x hx; ⟨a, h1, .inl h2, v, o, hk _ _ h3, h4⟩⟩
    obtain ⟨v, r, hh⟩ := hv i x k pv hi hp
    refine ⟨v, r.stay st, ?_⟩
    rcases hh with hh | ⟨hk', cc, h1, h2, o, h3, h4⟩
    · exact .inl hh
    · exact .inr ⟨hk', cc, h1, .inl h2, o, hk _ _ h3, h4⟩
  · rcases hfp b hb with z | ⟨z, o, ho⟩
    · exact .inl z
    · exact .inr ⟨st.good b o ho z, o, hk b o ho⟩
  · obtain ⟨o, ho⟩ := (S₁.gx b z).2.2; rw [hw b hb] at ho; cases ho
  · have := x₁.keep b o e hn ho; rw [hw b hb] at this; cases this
theorem ne_new {h : Heap} {a : Addr} {o : Obj} (e : h.get? a = some o) : a ≠ h.objs.size := Nat.ne_of_lt (Heap.lt_size e)
theorem It.seq {t e : PySem.Expr} {Q : List PV → Sto → Prop} (h : Ev c n env e ρ σ fun p σ₁ => ∃ l, (p = .lst l ∨ p = .tup l) ∧ Q l σ₁) : It c n env t e ρ σ Q := fun A X s rm S R => by
  refine Ev.then h rm S R fun v s₁ p σ₁ rv S₁ R₁ x₁ q => ?_
  obtain ⟨l, hp, q⟩ := q
  rcases hp with rfl | rfl
  · obtain ⟨a, vs, k, rfl, hb, ho, rl⟩ := rv.lst_inv
    refine wpAny_pyIter_list (isList_of ho) ?_
    refine it_start (tk := s₁.toks) (iter_list (k := k) rm.handled (ne_new ho) rl.length) ⟨⟨_, Heap.get?_push_size _ rfl, rfl, rfl⟩, isList_of (push_stays _ _ _ _ ho)⟩ S₁ R₁ x₁ R.ok.own rl (push_stays _ _) (fun b hb' => ?_) (fun b hb' => ?_) q
    · rw [List.mem_singleton.mp hb']; exact size_none _
    · rcases List.mem_cons.mp hb' with z | z
      · exact .inl (z ▸ List.mem_singleton.mpr rfl)
      · rw [List.mem_singleton.mp z]; exact .inr ⟨hb, _, ho⟩
  · obtain ⟨a, vs, rfl, hb, ho, rl⟩ := rv.tup_inv
    obtain ⟨o, ho1, _⟩ := id ho
    refine wpAny_pyIter_tuple ho ?_
    refine it_start (tk := s₁.toks) (iter_tuple rm.handled (ne_new ho1) rl.length) ⟨⟨_, Heap.get?_push_size _ rfl, rfl, rfl⟩, (isTuple_stay (stay_ext (bad := fun _ => False) (push_stays _ _)) (fun z => z) ho).1⟩ S₁ R₁ x₁ R.ok.own rl (push_stays _ _) (fun b hb' => ?_) (fun b hb' => ?_) q
    · rw [List.mem_singleton.mp hb']; exact size_none _
    · rcases List.mem_cons.mp hb' with z | z
      · exact .inl (z ▸ List.mem_singleton.mpr rfl)
      · rw [List.mem_singleton.mp z]; exact .inr ⟨hb, _, ho1⟩
theorem rangeSize_ones (a b : Int) : Builtin.Range.rangeSize a b 1 = ((b - a).toNat : Int) := by
  unfold Builtin.Range.rangeSize
  rw [if_pos (by decide)]
  split
  · rw [Int.ediv_one]; (first | lia | omega)
  · (first | lia | omega)
theorem abs_box {a : Int} (h : a.natAbs < 2 ^ 40) : -1099511627776 < a ∧ a < 1099511627776 := by omega
theorem small_ones {a b : Int} (h1 : a.natAbs < 2 ^ 40) (h2 : b.natAbs < 2 ^ 40) : Builtin.Range.small a b 1 = true := by
  unfold Builtin.Range.small
  rw [rangeSize_ones]
  unfold Builtin.Range.rangeFitsLong
  rw [if_pos (by decide)]
  simp only [Bool.and_eq_true, Bool.or_eq_true, decide_eq_true_eq, beq_iff_eq]
  obtain ⟨a1, a2⟩ := abs_box h1
  obtain ⟨b1, b2⟩ := abs_box h2
  clear h1 h2
  refine ⟨⟨⟨⟨?_, ?_⟩, ?_⟩, ?_⟩, .inr ?_⟩ <;> lia
theorem bootT_then {i : Nat} {f : Str} {T : String} {fp pos : Pos} {es : List PySem.Expr} {Q : List PV → Sto → Prop} {A : Around} {X : Addr → Prop} {s : Shared} {P : Value → Shared → Prop} (hi : env.scope.names[i]? = some (f, .globalImplicit)) (hg : nsIn K mainGlobals f = some none) (hb : bootBuiltins f = some (.type T))
    (h : Es c n env es ρ σ Q) (hp : (backTo pos (starEach es env)).any (·.1) = false) (ha : es = [] ∨ ∃ e r, es = e :: r ∧ starEach (e :: r) env = (false, eval e env) :: starEach r env) (hn : f ≠ "__name__") (hd : (f == ("__debug__" : Str)) = false)
    (rm : Room n A) (S : Sat prog w c.G X s.heap σ) (R : LRep prog w env X s.heap (Bad X σ) ρ)
    (k : ∀ vs s₁ l σ₁, Reps prog w s₁.heap (Bad X σ₁) l vs → Sat prog w c.G X s₁.heap σ₁ → LRep prog w env X s₁.heap (Bad X σ₁) ρ → Step (Own env) s σ s₁ σ₁ → Q l σ₁ → wpAny (model prog w) A (call (.type T) vs) P NoE s₁) :
    wpAny (model prog w) A (eval (.Call (.Name f fp) es [] pos) env) P NoE s := by
  refine wpAny_Call_ofName (name_boot S R hi hg hb hn hd ?_)
  refine PySem.callWith_type hp ?_
  refine args_any ha ?_
  refine wpAny_mono (h A X s pos rm S R) (fun vs s₁ ⟨l, σ₁, rl, S₁, R₁, x₁, q⟩ => ?_) fun _ _ x => x
  exact k vs s₁ l σ₁ rl S₁ R₁ x₁ q
noncomputable def ArgsOk (es : List PySem.Expr) (env : Env) (pos : Pos) : Prop := (backTo pos (starEach es env)).any (·.1) = false ∧ (es = [] ∨ ∃ e r, es = e :: r ∧ starEach (e :: r) env = (false, eval e env) :: starEach r env)
theorem it_range {t : PySem.Expr} {a b : Int} {A : Around} {X : Addr → Prop} {s s₁ : Shared} {σ₁ : Sto} {Q : List PV → Sto → Prop} {r : Addr} {t₀ u₀ v₀ : Tok} (hr : IsRange s₁.heap r a b 1 t₀ u₀ v₀) (rm : Room n A) (S₁ : Sat prog w c.G X s₁.heap σ₁) (R₁ : LRep prog w env X s₁.heap (Bad X σ₁) ρ) (x₁ : Step (Own env) s σ s₁ σ₁)
    (ha : a.natAbs < 2 ^ 40) (hb : b.natAbs < 2 ^ 40) (q : Q (nums a (b - a).toNat) σ₁) : wpAny (model prog w) A (pyIter (.ref r)) (ItPost c env t A X ρ s σ Q) NoE s₁ := by
  refine wpAny_pyIter_range hr (small_ones ha hb) ?_
  rw [rangeSize_ones]
  refine it_start (tk := s₁.toks) (iter_range (a := a) (m := (b - a).toNat) rm.handled) ?_ S₁ R₁ x₁ R₁.ok.own Reps.nil (push_stays _ _) (fun b hb' => ?_) (fun b hb' => .inl hb') q
  · show IsRangeIter _ _ _ _ _
    have e1 : a + ((0 : Nat) : Int) * 1 = a := by (first | lia | omega)
    have e2 : (((b - a).toNat : Nat) : Int) - ((0 : Nat) : Int) = ((b - a).toNat : Int) := by (first | lia | omega)
    rw [e1, e2]
    exact Heap.get?_push_size _ rfl
  · rw [List.mem_singleton.mp hb']; exact size_none _
theorem It.range2 {t : PySem.Expr} {es : List PySem.Expr} {i : Nat} {fp pos : Pos} {a b : Int} {Q : List PV → Sto → Prop} (hi : env.scope.names[i]? = some (("range" : Str), .globalImplicit)) (hg : nsIn K mainGlobals "range" = some none)
    (hes : Es c n env es ρ σ fun l σ₁ => l = [.int a, .int b] ∧ Q (nums a (b - a).toNat) σ₁) (ha : a.natAbs < 2 ^ 40) (hb : b.natAbs < 2 ^ 40)
    (ho : ArgsOk es env pos := by exact ⟨rfl, .inr ⟨_, _, rfl, rfl⟩⟩) : It c n env t (.Call (.Name "range" fp) es [] pos) ρ σ Q := fun A X s rm S R => by
  refine bootT_then hi hg boot_range hes ho.1 ho.2 (by decide) (by decide) rm S R fun vs s₁ l σ₁ rl S₁ R₁ x₁ q => ?_
  obtain ⟨rfl, q⟩ := q
  simp only [Reps] at rl
  obtain ⟨v, _, rfl, r1, u, _, rfl, r2, rfl⟩ := rl
  obtain ⟨t1, rfl⟩ := r1.int_inv
  obtain ⟨t2, rfl⟩ := r2.int_inv
  refine call_range_2 ?_
  have hk := push_stays s₁.heap { cls := Value.type "range", data := Data.fields #[Value.int a t1, Value.int b t2, Value.int 1 s₁.toks] }
  exact it_range (t := t) (s₁ := { s₁ with heap := _, toks := _ }) (Heap.get?_push_size _ rfl) rm (S₁.ext hk) (R₁.ext hk) (x₁.trans (step_ext hk) S₁ R.ok.own) ha hb q
theorem It.range1 {t : PySem.Expr} {es : List PySem.Expr} {i : Nat} {fp pos : Pos} {b : Int} {Q : List PV → Sto → Prop} (hi : env.scope.names[i]? = some (("range" : Str), .globalImplicit)) (hg : nsIn K mainGlobals "range" = some none)
    (hes : Es c n env es ρ σ fun l σ₁ => l = [.int b] ∧ Q (nums 0 b.toNat) σ₁) (hb : b.natAbs < 2 ^ 40)
    (ho : ArgsOk es env pos := by exact ⟨rfl, .inr ⟨_, _, rfl, rfl⟩⟩) : It c n env t (.Call (.Name "range" fp) es [] pos) ρ σ Q := fun A X s rm S R => by
  refine bootT_then hi hg boot_range hes ho.1 ho.2 (by decide) (by decide) rm S R fun vs s₁ l σ₁ rl S₁ R₁ x₁ q => ?_
  obtain ⟨rfl, q⟩ := q
  simp only [Reps] at rl
  obtain ⟨v, _, rfl, r1, rfl⟩ := rl
  obtain ⟨t1, rfl⟩ := r1.int_inv
  refine call_range_1 ?_
  have hk := push_stays s₁.heap { cls := Value.type "range", data := Data.fields #[Value.int 0 s₁.toks, Value.int b t1, Value.int 1 (s₁.toks + 1)] }
  exact it_range (t := t) (s₁ := { s₁ with heap := _, toks := _ }) (Heap.get?_push_size _ rfl) rm (S₁.ext hk) (R₁.ext hk) (x₁.trans (step_ext hk) S₁ R.ok.own) (by decide) hb (by rw [Int.sub_zero]; exact q)
noncomputable def numbered (l : List PV) : List PV := l.zipIdx.map fun p => .tup [.int (p.2 : Int), p.1]
theorem numbered_length (l : List PV) : (numbered l).length = l.length := by unfold numbered; simp
theorem numbered_get {l : List PV} {i : Nat} {p : PV} (h : (numbered l)[i]? = some p) : ∃ q, l[i]? = some q ∧ p = .tup [.int (i : Int), q] := by
  unfold numbered at h
  rw [List.getElem?_map, List.getElem?_zipIdx] at h
  cases e : l[i]? with
  | none => rw [e] at h; cases h
  | some q => rw [e] at h; cases h; exact ⟨q, rfl, by simp⟩
theorem iter_enum {A : Around} {elts : List PySem.Expr} {k : Nat} {pos : Pos} (hh : A.handled = none) {e it a : Addr} (h1 : e ≠ it) (h2 : a ≠ e) (h3 : a ≠ it) {l : List PV} {vs : List Value} (hl : vs.length = l.length) :
    Iter c A (.Tuple elts k pos) e [e, it, a] [e, it] (numbered l) l vs (fun i h => (∃ old, IsEnum h e it (i : Int) old) ∧ h.IsListIter it a i ∧ h.IsList a vs.toArray)
      (fun i h h' v => ∃ T t x, v = .ref T ∧ vs[i]? = some x ∧ h.get? T = none ∧ T ≠ e ∧ T ≠ it ∧ h'.IsTuple T #[.int (i : Int) t, x]) := by
  have W := WalksT.enumerate (prog := prog) (w := w) hh e it a h1 h2 h3 vs.toArray
  have hz : vs.toArray.size = l.length := by simp [hl]
  rw [hz] at W
  refine ⟨W.sub, W.frame, fun i h st b hb => ?_, fun i s Q hi st hQ => ?_, fun s Q st hQ => ?_, fun i s Q st q => W.self i s Q NoE st q, fun i h h' v p X σ S hX rb hk ho hp => ?_⟩
  · obtain ⟨⟨old, e1⟩, ⟨o, e2, _⟩, _⟩ := st
    rcases List.mem_cons.mp hb with z | z
    · exact ⟨_, z ▸ e1⟩
    · rw [List.mem_singleton.mp z]; exact ⟨_, e2⟩
  · rw [numbered_length] at hi
    refine W.item i s _ NoE hi st fun T vals h' tk hP hT htup hmid hk => ⟨_, rfl, ?_⟩
    obtain ⟨t, x, hx, rfl⟩ := hP
    have hm := W.apart _ _ _ hmid
    refine W.go elts k pos i T { s with heap := h', toks := tk } _ NoE hmid fun h'' st' hk' => ?_
    have hTe : T ≠ e := fun z => hm (z ▸ List.mem_cons_self)
    have hTi : T ≠ it := fun z => hm (z ▸ List.mem_cons_of_mem _ (List.mem_singleton.mpr rfl))
    obtain ⟨oT, hoT, r⟩ := htup
    have hn : s.heap.get? T = none := by
      cases q : s.heap.get? T with
      | none => rfl
      | some o => exact absurd (Heap.lt_size q) (Nat.not_lt.mpr hT)
    exact hQ (.ref T) h'' tk ⟨T, t, x, rfl, by simpa using hx, hn, hTe, hTi, oT, hk' T oT hm hoT, r⟩ st' fun b o hb e => hk' b o hb (hk b o hb e)
  · rw [numbered_length] at st
    exact W.done s Q NoE st hQ
  · obtain ⟨T, t, x, rfl, hx, hn, hTe, hTi, htup⟩ := ho
    obtain ⟨q, hq, rfl⟩ := numbered_get hp
    obtain ⟨u, hu, r⟩ := rb.get hq
    rw [hu] at hx; cases hx
    simp only [Rep]
    exact ⟨T, [.int (i : Int) t, x], rfl, good_of S hn, htup, Reps.cons Rep.int (Reps.cons (r.stay (stay_wr hX hk)) Reps.nil)⟩
theorem It.enum {elts : List PySem.Expr} {k : Nat} {tpos : Pos} {es : List PySem.Expr} {i : Nat} {fp pos : Pos} {Q : List PV → Sto → Prop} (hi : env.scope.names[i]? = some (("enumerate" : Str), .globalImplicit)) (hg : nsIn K mainGlobals "enumerate" = some none)
    (hes : Es c n env es ρ σ fun l σ₁ => ∃ ps, l = [.lst ps] ∧ Q (numbered ps) σ₁)
    (ho : ArgsOk es env pos := by exact ⟨rfl, .inr ⟨_, _, rfl, rfl⟩⟩) : It c n env (.Tuple elts k tpos) (.Call (.Name "enumerate" fp) es [] pos) ρ σ Q := fun A X s rm S R => by
  refine bootT_then hi hg Boot.enumerate hes ho.1 ho.2 (by decide) (by decide) rm S R fun vs s₁ l σ₁ rl S₁ R₁ x₁ q => ?_
  obtain ⟨ps, rfl, q⟩ := q
  simp only [Reps] at rl
  obtain ⟨v, _, rfl, r1, rfl⟩ := rl
  obtain ⟨a, us, m, rfl, hb, hoa, rp⟩ := r1.lst_inv
  refine call_enumerate_list (isList_of hoa) fun h' he hit hz hk => wpAny_pyIter_enum he ?_
  have alt : a < s₁.heap.objs.size := Heap.lt_size hoa
  refine it_start (tk := s₁.toks) (iter_enum (e := s₁.heap.objs.size + 1) (it := s₁.heap.objs.size) (a := a) rm.handled (Nat.succ_ne_self _) (Nat.ne_of_lt (Nat.lt_succ_of_lt alt)) (Nat.ne_of_lt alt) rp.length) ⟨⟨_, he⟩, hit, (isList_of (hk _ _ hoa))⟩ S₁ R₁ x₁ R.ok.own rp hk (fun b hb' => ?_) (fun b hb' => ?_) q
  · rcases List.mem_cons.mp hb' with z | z
    · cases q' : s₁.heap.get? b with
      | none => rfl
      | some o => exact absurd (z ▸ Heap.lt_size q' : s₁.heap.objs.size + 1 < s₁.heap.objs.size) (Nat.not_lt.mpr (Nat.le_succ _))
    · rw [List.mem_singleton.mp z]; exact size_none _
  · rcases List.mem_cons.mp hb' with z | z
    · exact .inl (z ▸ List.mem_cons_self)
    · rcases List.mem_cons.mp z with z | z
      · exact .inl (z ▸ List.mem_cons_of_mem _ (List.mem_singleton.mpr rfl))
      · rw [List.mem_singleton.mp z]; exact .inr ⟨hb, _, hoa⟩
end
section
variable {prog : Program} {w : World} {K : Frag} {c : Cx prog w K} {n : Nat} {env cenv : Env} {ρ ρ' : List (Option PV)} {σ : Sto}
noncomputable def Fill (prog : Program) (w : World) (D : Addr) (acc : List PV) (X : Addr → Prop) (σ : Sto) (h : Heap) : Prop := X D ∧ ∃ vs k, h.get? D = some (listOf vs.toArray k) ∧ Reps prog w h (Bad X σ) acc vs
structure DOk (env : Env) (D : Addr) : Prop where
  loc : D ≠ env.locals
  cell : ∀ x a, env.cells.lookup x = some a → a ≠ D
  own : ¬ Own env D
inductive EmPost (c : Cx prog w K) (env : Env) (D : Addr) (X F : Addr → Prop) (s : Shared) (σ : Sto) (Q : List PV → List (Option PV) → Sto → Prop) (s' : Shared) : Prop
  | mk (acc' : List PV) (ρ' : List (Option PV)) (σ' : Sto) (S : Sat prog w c.G X s'.heap σ') (R : LRep prog w env X s'.heap (Bad X σ') ρ') (f : Fill prog w D acc' X σ' s'.heap) (x : Step F s σ s' σ') (q : Q acc' ρ' σ')
noncomputable def Em (c : Cx prog w K) (n : Nat) (env : Env) (D : Addr) (emit : Sem Unit) (acc : List PV) (ρ : List (Option PV)) (σ : Sto) (Q : List PV → List (Option PV) → Sto → Prop) : Prop :=
  ∀ A X s, Room n A → Sat prog w c.G X s.heap σ → LRep prog w env X s.heap (Bad X σ) ρ → Fill prog w D acc X σ s.heap →
    wpAny (model prog w) A emit (fun _ s' => EmPost c env D X (And2 (Own env) (InL [D])) s σ Q s') NoE s
noncomputable def Tests (c : Cx prog w K) (n : Nat) (env : Env) : List PySem.Expr → List (Option PV) → Sto → Bool → Prop
  | [], _, _, b => b = true
  | [e], ρ, σ, b => Dt c n env ρ σ e b
  | _, _, _, _ => False
theorem Tests.run {ifs : List PySem.Expr} {b : Bool} (h : Tests c n env ifs ρ σ b) {A : Around} {X : Addr → Prop} {s : Shared} {P : Bool → Shared → Prop} (rm : Room n A) (S : Sat prog w c.G X s.heap σ) (R : LRep prog w env X s.heap (Bad X σ) ρ)
    (k : ∀ s', Sat prog w c.G X s'.heap σ → LRep prog w env X s'.heap (Bad X σ) ρ → Step (Own env) s σ s' σ → P b s') :
    wpAny (model prog w) A (forIn ifs true fun c r => if r = true then do let ok ← isTrue c env (eval c env); pure (ForInStep.yield ok) else pure (ForInStep.yield r)) P NoE s := by
  match ifs, h with
  | [], h =>
    have : b = true := h
    subst this
    exact wpAny_tests_nil (k s S R (Step.refl _ _ _))
  | [e], h =>
    refine wpAny_tests_one (Te.then h rm S R fun b' s₁ σ₁ S₁ R₁ x₁ q => ?_)
    obtain ⟨rfl, rfl⟩ := q
    exact k s₁ S₁ R₁ x₁
noncomputable def CL (c : Cx prog w K) (n : Nat) (env : Env) (t : PySem.Expr) (ifs : List PySem.Expr) (EmP : List PV → List (Option PV) → Sto → (List PV → List (Option PV) → Sto → Prop) → Prop) (Q : List PV → List (Option PV) → Sto → Prop) : List PV → List PV → List (Option PV) → Sto → Prop
  | [], acc, ρ, σ => Q acc ρ σ
  | p :: ps, acc, ρ, σ => ∃ ρ₁ b, As c n env t p ρ ρ₁ ∧ Tests c n env ifs ρ₁ σ b ∧ (b = true → EmP acc ρ₁ σ fun acc' ρ' σ' => CL c n env t ifs EmP Q ps acc' ρ' σ') ∧ (b = false → CL c n env t ifs EmP Q ps acc ρ₁ σ)
theorem Fill.step {D : Addr} {acc : List PV} {X F : Addr → Prop} {s s' : Shared} {σ σ' : Sto} (f : Fill prog w D acc X σ s.heap) (S : Sat prog w c.G X s.heap σ) (x : Step F s σ s' σ') (hF : ∀ a, F a → X a) (hD : ¬ F D) : Fill prog w D acc X σ' s'.heap := by
  obtain ⟨hX, vs, k, ho, r⟩ := f
  exact ⟨hX, vs, k, x.keep D _ ho (S.gx D hX).1 hD, r.stay (x.stay hF)⟩
theorem Em.elt {D : Addr} {elt : PySem.Expr} {acc : List PV} {Q : List PV → List (Option PV) → Sto → Prop} (hD : DOk env D) (hz : acc.length ≤ 100000) (h : Ev c n env elt ρ σ fun p σ' => Q (acc ++ [p]) ρ σ') : Em c n env D (do let _ ← call (.builtin "list.append") [.ref D, ← eval elt env]) acc ρ σ Q := fun A X s rm S R f => by
  refine wpAny_bind (Ev.then h rm S R fun v s₁ p σ₁ rv S₁ R₁ x₁ q => wpAny_bind ?_)
  obtain ⟨hX, vs, k, ho, r⟩ := f.step S x₁ R.ok.own hD.own
  have hlen : vs.length ≤ 100000 := by rw [r.length]; exact hz
  refine wpAny_list_append_plain (items := vs.toArray) ⟨k, ho⟩ (fun h' hp hs => wpAny_pure ?_) (by rw [List.size_toArray]; exact Nat.le_trans hlen (by decide))
  obtain ⟨k', ho'⟩ := hp
  have hk : ∀ a o, s₁.heap.get? a = some o → ¬ InL [D] a → h'.get? a = some o := fun a o e z => (hs.2 a fun y => z (y ▸ List.mem_singleton.mpr rfl)).trans e
  have hC : ∀ a, InL [D] a → X a := fun a z => (List.mem_singleton.mp z) ▸ hX
  have st := stay_chg (σ := σ₁) hk hC
  obtain ⟨m, hm, hv⟩ := R₁.ns
  refine ⟨acc ++ [p], ρ, σ₁, S₁.chg hk hC fun a z => ⟨_, (List.mem_singleton.mp z) ▸ ho'⟩, R₁.updC st (hm.at' fun o e => hk _ o e fun z => hD.loc (List.mem_singleton.mp z).symm) hv fun x a o hx e => hk a o e fun z => hD.cell x a hx (List.mem_singleton.mp z),
    ⟨hX, vs ++ [v], k', by rw [ho']; simp, (r.stay st).append (Reps.cons (rv.stay st) Reps.nil)⟩, ?_, q⟩
  exact (x₁.mono fun a z => .inl z).trans (step_chg (tk := s₁.toks) hk fun a z => .inr z) S₁ fun a z => z.elim (R.ok.own a) (hC a)
inductive ClInv (c : Cx prog w K) (n : Nat) (env : Env) (t : PySem.Expr) (ifs : List PySem.Expr) (EmP : List PV → List (Option PV) → Sto → (List PV → List (Option PV) → Sto → Prop) → Prop) (Q : List PV → List (Option PV) → Sto → Prop) (D : Addr) (Y F : Addr → Prop) (fp wr : List Addr) (items base : List PV) (bvs : List Value) (St : Nat → Heap → Prop) (s : Shared) (σ : Sto) (k : Nat) (s' : Shared) : Prop
  | mk (i : Nat) (acc' : List PV) (ρ' : List (Option PV)) (σ' : Sto) (e : k = items.length + 1 - i) (hi : i ≤ items.length) (st : St i s'.heap) (S : Sat prog w c.G Y s'.heap σ') (R : LRep prog w env Y s'.heap (Bad Y σ') ρ') (rb : Reps prog w s'.heap (Bad Y σ') base bvs)
    (hf : ∀ b ∈ fp, b ∈ wr ∨ (¬ Bad Y σ' b ∧ ∃ o, s'.heap.get? b = some o)) (f : Fill prog w D acc' Y σ' s'.heap) (x : Step F s σ s' σ') (hL : CL c n env t ifs EmP Q (items.drop i) acc' ρ' σ')
theorem comp_loop {D I : Addr} {e t : PySem.Expr} {p₀ : Pos} {depth : Nat} {ifs : List PySem.Expr} {emit : Sem Unit} {EmP : List PV → List (Option PV) → Sto → (List PV → List (Option PV) → Sto → Prop) → Prop} {Q : List PV → List (Option PV) → Sto → Prop}
    {A : Around} {X : Addr → Prop} {s : Shared} {fp wr : List Addr} {items base : List PV} {bvs : List Value} {St : Nat → Heap → Prop} {Out : Nat → Heap → Heap → Value → Prop} {acc : List PV} {R : Result → Shared → Prop}
    (hturn : compTurn e depth (.ref I) (.ref D) env = (do
      standAt p₀
      match ← pyNext (.ref I) with
      | none => pure (.done .next)
      | some v =>
        letOwnedTupleGo t (.ref I) v
        assign t env v
        let mut ok := true
        for c in ifs do
          if ok then ok ← isTrue c env (eval c env)
        if ok then emit
        again (.compLoop e depth (.ref I) (.ref D) env)))
    (hfr : (Code.compLoop e depth (.ref I) (.ref D) env).isFrame = false) (hq : (Code.compLoop e depth (.ref I) (.ref D) env).quiet = true) (hw : (Code.compLoop e depth (.ref I) (.ref D) env).weight = 0) (hu : (Code.compLoop e depth (.ref I) (.ref D) env).cUnits = 0)
    (hem : ∀ acc ρ σ Q, EmP acc ρ σ Q → Em c n env D emit acc ρ σ Q)
    (W : Iter c A t I fp wr items base bvs St Out) (st0 : St 0 s.heap) (rm : Room n A) (S : Sat prog w c.G (And2 X (InL wr)) s.heap σ) (Rl : LRep prog w env (And2 X (InL wr)) s.heap (Bad (And2 X (InL wr)) σ) ρ) (rb : Reps prog w s.heap (Bad (And2 X (InL wr)) σ) base bvs)
    (hfp : ∀ b ∈ fp, b ∈ wr ∨ (¬ Bad (And2 X (InL wr)) σ b ∧ ∃ o, s.heap.get? b = some o)) (hXW : ∀ a, X a → ¬ InL wr a) (hO : ∀ a, Own env a → X a) (hcx : ∀ x a, env.cells.lookup x = some a → X a) (hX : X D) (hD : DOk env D) (f : Fill prog w D acc (And2 X (InL wr)) σ s.heap) (h : CL c n env t ifs EmP Q items acc ρ σ)
    (hR : ∀ s' acc' ρ' σ', Sat prog w c.G X s'.heap σ' → LRep prog w env X s'.heap (Bad X σ') ρ' → Fill prog w D acc' X σ' s'.heap → Step (And2 (Own env) (And2 (InL [D]) (InL wr))) s σ s' σ' → Q acc' ρ' σ' → R (.ok .next) s') :
    codeAny (model prog w) A (.compLoop e depth (.ref I) (.ref D) env) R s := by
  have hF : ∀ a, And2 (Own env) (And2 (InL [D]) (InL wr)) a → And2 X (InL wr) a := fun a z => z.elim (fun z => .inl (hO a z)) fun z => z.elim (fun z => .inl ((List.mem_singleton.mp z) ▸ hX)) .inr
  refine codeAny_loop hq
    (ClInv c n env t ifs EmP Q D (And2 X (InL wr)) (And2 (Own env) (And2 (InL [D]) (InL wr))) fp wr items base bvs St s σ) ?_ (items.length + 1)
    ⟨0, acc, ρ, σ, rfl, Nat.zero_le _, st0, S, Rl, rb, hfp, f, Step.refl _ _ _, h⟩
  rintro k s' ⟨i, acc', ρ', σ', rfl, hi, sti, S', R', rb', hfp', f', x', hL⟩
  have hA : A.under (.compLoop e depth (.ref I) (.ref D) env) = A := Around.under_of_weight hw hu
  rw [hA]
  show wpAny _ A (if (Code.compLoop e depth (.ref I) (.ref D) env).isFrame = true then (compTurn e depth (.ref I) (.ref D) env).onRaise (leaving env) else (compTurn e depth (.ref I) (.ref D) env).onRaise (fun x => do noteFrame x env; theTreesLotGoes x)) _ _ s'
  rw [hfr]
  simp only [Bool.false_eq_true, if_false]
  refine wpAny_mono (wpAny_noted (E := NoE) ?_) (fun _ _ x => x) fun _ _ x => x.elim
  rw [hturn]
  refine wpAny_mono (E := NoE) ?_ (fun _ _ x => x) fun _ _ x => x.elim
  refine wpAny_bind (wpAny_standAt (wpAny_bind ?_))
  by_cases hlt : i < items.length
  · refine wpAny_mono (W.item i s' (fun v s₃ => ∃ h' tk, s₃ = { s' with heap := h', toks := tk } ∧ Out i s'.heap h' v ∧ St (i + 1) h' ∧ (∀ b o, b ∉ wr → s'.heap.get? b = some o → h'.get? b = some o)) hlt sti fun v h' tk a b d => ⟨h', tk, rfl, a, b, d⟩) (fun r s₃ z => ?_) fun _ _ x => x
    obtain ⟨v, rfl, z⟩ := z
    refine wpAny_bind (wpAny_mono z (fun _ s₄ z => ?_) fun _ _ x => x)
    obtain ⟨h₄, tk₄, rfl, hout, st₄, hk₄⟩ := z
    have hk₄' : ∀ a o, s'.heap.get? a = some o → ¬ InL wr a → h₄.get? a = some o := fun a o e z => hk₄ a o z e
    have hC : ∀ a, InL wr a → And2 X (InL wr) a := fun a z => .inr z
    have hp : items[i]? = some items[i] := List.getElem?_eq_getElem hlt
    have S₄ := S'.chg hk₄' hC (W.live _ _ st₄)
    have stay₄ := stay_chg (σ := σ') hk₄' hC
    have rv := W.rep i _ _ v _ _ _ S' (fun b hb => .inr hb) rb' hk₄ hout hp
    have R₄ : LRep prog w env (And2 X (InL wr)) h₄ (Bad (And2 X (InL wr)) σ') ρ' := by
      obtain ⟨m, hm, hv⟩ := R'.ns
      exact R'.updC stay₄ (hm.at' fun o e => hk₄' _ o e (hXW _ (hO _ (.inl rfl)))) hv fun x a o hx e => hk₄' a o e (hXW a (hcx x a hx))
    have x₄ : Step (And2 (Own env) (And2 (InL [D]) (InL wr))) s' σ' { s' with heap := h₄, toks := tk₄ } σ' := step_chg hk₄' fun a z => .inr (.inr z)
    have f₄ : Fill prog w D acc' (And2 X (InL wr)) σ' h₄ := by
      obtain ⟨a, vs, k, ho, r⟩ := f'
      exact ⟨a, vs, k, hk₄' D _ ho (hXW D hX), r.stay stay₄⟩
    rw [← List.getElem_cons_drop hlt] at hL
    obtain ⟨ρ₂, b, has, hts, htrue, hfalse⟩ := hL
    refine wpAny_bind (wpAny_mono (has A _ { s' with heap := h₄, toks := tk₄ } σ' v rm S₄ R₄ rv) (fun _ s₅ z => ?_) fun _ _ x => x)
    obtain ⟨S₅, R₅, x₅⟩ := z
    have f₅ := f₄.step (s := { s' with heap := h₄, toks := tk₄ }) S₄ x₅ (fun a z => .inl (hO a z)) hD.own
    refine wpAny_bind (hts.run rm S₅ R₅ fun s₆ S₆ R₆ x₆ => ?_)
    have f₆ := f₅.step S₅ x₆ (fun a z => .inl (hO a z)) hD.own
    have x₄₆ : Step (Own env) { s' with heap := h₄, toks := tk₄ } σ' s₆ σ' := x₅.trans x₆ S₅ R₅.ok.own
    have nowr : ∀ b ∈ wr, ¬ Own env b := fun b hb z => hXW b (hO b z) hb
    have hF' : ∀ a, And2 (Own env) (InL [D]) a → And2 X (InL wr) a := fun a z => z.elim (fun z => .inl (hO a z)) fun z => .inl ((List.mem_singleton.mp z) ▸ hX)
    have again : ∀ {s₇ acc₇ ρ₇ σ₇}, Sat prog w c.G (And2 X (InL wr)) s₇.heap σ₇ → LRep prog w env (And2 X (InL wr)) s₇.heap (Bad (And2 X (InL wr)) σ₇) ρ₇ → Fill prog w D acc₇ (And2 X (InL wr)) σ₇ s₇.heap →
        Step (And2 (Own env) (InL [D])) { s' with heap := h₄, toks := tk₄ } σ' s₇ σ₇ → CL c n env t ifs EmP Q (items.drop (i + 1)) acc₇ ρ₇ σ₇ →
        ∃ m, m < items.length + 1 - i ∧ ClInv c n env t ifs EmP Q D (And2 X (InL wr)) (And2 (Own env) (And2 (InL [D]) (InL wr))) fp wr items base bvs St s σ m s₇ := by
      intro s₇ acc₇ ρ₇ σ₇ S₇ R₇ f₇ y hl
      have sty := y.stay (X := And2 X (InL wr)) hF'
      have keep7 : ∀ b ∈ fp, ∀ o, h₄.get? b = some o → s₇.heap.get? b = some o := fun b hb o e => by
        rcases hfp' b hb with z | ⟨z, _⟩
        · exact y.keep b o e (S₄.gx b (.inr z)).1 fun q => q.elim (nowr b z) fun q => hXW D hX ((List.mem_singleton.mp q) ▸ z)
        · refine y.keep b o e ?_ fun q => z (.inl (hF' b q))
          cases q : σ' b with
          | none => rfl
          | some _ => exact absurd (.inr (by rw [q]; exact fun y => nomatch y)) z
      refine ⟨items.length + 1 - (i + 1), by (first | lia | omega), i + 1, acc₇, ρ₇, σ₇, rfl, hlt, W.frame _ _ _ st₄ keep7, S₇, R₇, (rb'.stay stay₄).stay sty, fun b hb => ?_, f₇, ?_, hl⟩
      · rcases hfp' b hb with z | ⟨z, o, ho⟩
        · exact .inl z
        · have h4 := stay₄.get b o ho z
          exact .inr ⟨sty.good b o h4 (stay₄.good b o ho z), o, sty.get b o h4 (stay₄.good b o ho z)⟩
      · exact (x'.trans x₄ S' hF).trans (y.mono fun a z => z.elim .inl fun z => .inr (.inl z)) S₄ hF
    cases b with
    | false => exact wpAny_pure ⟨rfl, again S₆ R₆ f₆ (x₄₆.mono fun a z => .inl z) (hfalse rfl)⟩
    | true =>
      refine wpAny_bind (wpAny_mono (hem _ _ _ _ (htrue rfl) A _ s₆ rm S₆ R₆ f₆) (fun _ s₇ z => ?_) fun _ _ x => x)
      obtain ⟨acc₇, ρ₇, σ₇, S₇, R₇, f₇, x₇, q⟩ := z
      exact wpAny_pure ⟨rfl, again S₇ R₇ f₇ ((x₄₆.mono fun a z => .inl z).trans x₇ S₆ hF') q⟩
  · have hin : i = items.length := by (first | lia | omega)
    subst hin
    rw [List.drop_length] at hL
    refine wpAny_mono (W.done s' (fun r s₁ => r = none ∧ ∃ h' tk, s₁ = { s' with heap := h', toks := tk } ∧ ∀ b o, b ∉ wr → s'.heap.get? b = some o → h'.get? b = some o) sti fun h' tk hk => ⟨rfl, h', tk, rfl, hk⟩) (fun r s₁ z => ?_) fun _ _ x => x
    obtain ⟨rfl, h', tk, rfl, hk⟩ := z
    have hk' : ∀ a o, s'.heap.get? a = some o → ¬ InL wr a → h'.get? a = some o := fun a o e z => hk a o z e
    refine wpAny_pure (hR _ acc' ρ' σ' (S'.endIt hk' hXW) (R'.endIt (stay_endIt hk') hk' hXW hO hcx) ?_ (x'.trans (step_chg hk' fun a z => .inr (.inr z)) S' hF) hL)
    obtain ⟨a, vs, k, ho, r⟩ := f'
    exact ⟨hX, vs, k, hk' D _ ho (hXW D hX), r.stay (stay_endIt hk')⟩
end
section
variable {prog : Program} {w : World} {K : Frag} {c : Cx prog w K} {n : Nat} {env cenv : Env} {ρ ρ' : List (Option PV)} {σ : Sto}
theorem closure_run {env : Env} : ∀ (names : List (Str × NameKind)) (acc : List (Str × Addr)), (∀ x, (x, NameKind.free) ∈ names → ∃ a, env.cells.lookup x = some a) →
    (∀ x a, acc.lookup x = some a → env.cells.lookup x = some a) →
    ∃ cl, (forIn names acc fun x s => if (x.2 == NameKind.free) = true then do let a ← cellOf env x.1; pure (ForInStep.yield ((x.1, a) :: s)) else pure (ForInStep.yield s) : Sem (List (Str × Addr))) = pure cl ∧
      (∀ x a, cl.lookup x = some a → env.cells.lookup x = some a) ∧ (∀ x a, acc.lookup x = some a → cl.lookup x = some a) ∧ (∀ x, (x, NameKind.free) ∈ names → cl.lookup x = env.cells.lookup x)
  | [], acc, _, h => ⟨acc, rfl, h, fun _ _ e => e, fun x hx => by cases hx⟩
  | (y, k) :: r, acc, hn, h => by
    by_cases hk : k = .free
    · subst hk
      obtain ⟨a, ha⟩ := hn y List.mem_cons_self
      have h' : ∀ x b, ((y, a) :: acc).lookup x = some b → env.cells.lookup x = some b := fun x b e => by
        cases hx : x == y with
        | true => rw [List.lookup_cons, hx] at e; cases e; rw [eq_of_beq hx]; exact ha
        | false => rw [List.lookup_cons, hx] at e; exact h x b e
      obtain ⟨cl, ee, h1, h2, h3⟩ := closure_run r ((y, a) :: acc) (fun x hx => hn x (List.mem_cons_of_mem _ hx)) h'
      refine ⟨cl, ?_, h1, fun x b e => ?_, fun x hx => ?_⟩
      · rw [List.forIn_cons]
        simp only [beq_self_eq_true, if_true]
        have : cellOf env y = pure a := by unfold cellOf; rw [ha]
        rw [this]
        exact ee
      · cases hx : x == y with
        | true =>
          have := eq_of_beq hx
          subst this
          have hb := h _ b e
          have h4 := h2 _ a (by rw [List.lookup_cons, hx])
          rw [ha] at hb; cases hb; exact h4
        | false => exact h2 x b (by rw [List.lookup_cons, hx]; exact e)
      · rcases List.mem_cons.mp hx with e' | e'
        · cases e'
          rw [h2 y a (by rw [List.lookup_cons, beq_self_eq_true]), ha]
        · exact h3 x e'
    · obtain ⟨cl, ee, h1, h2, h3⟩ := closure_run r acc (fun x hx => hn x (List.mem_cons_of_mem _ hx)) h
      refine ⟨cl, ?_, h1, h2, fun x hx => ?_⟩
      · rw [List.forIn_cons]
        have : (k == NameKind.free) = false := by simpa using hk
        simp only [this, Bool.false_eq_true, if_false]
        exact ee
      · rcases List.mem_cons.mp hx with e' | e'
        · cases e'; exact absurd rfl hk
        · exact h3 x e'
theorem closure_ok {env : Env} {scope : Scope} (h : ∀ x, (x, NameKind.free) ∈ scope.names → ∃ a, env.cells.lookup x = some a) :
    ∃ cl, closureFor scope env = pure cl ∧ (∀ x a, cl.lookup x = some a → env.cells.lookup x = some a) ∧ (∀ x, (x, NameKind.free) ∈ scope.names → cl.lookup x = env.cells.lookup x) := by
  obtain ⟨cl, e, h1, _, h3⟩ := closure_run (env := env) scope.names [] h (fun x a e => by cases e)
  refine ⟨cl, ?_, h1, h3⟩
  rw [closureFor.eq_1]
  refine Eq.trans ?_ (congrArg (· >>= pure) e)
  rfl
noncomputable def linkOk (outer : List (Str × NameKind)) : List (Str × NameKind) → List (Option Nat) → Bool
  | [], [] => true
  | (_, k) :: ns, none :: js => (k == .local || k == .globalImplicit) && linkOk outer ns js
  | (x, k) :: ns, some j :: js => (k == .free) && (match outer[j]? with | some (y, k') => decide (y = x) && (k' == NameKind.cell) | none => false) && linkOk outer ns js
  | _, _ => false
noncomputable def linked (ρ : List (Option PV)) (js : List (Option Nat)) : List (Option PV) := js.map fun j => j.bind fun j => (ρ[j]?).join
theorem linkOk_get {outer : List (Str × NameKind)} {ρ : List (Option PV)} : ∀ {ns : List (Str × NameKind)} {js : List (Option Nat)}, linkOk outer ns js = true → ∀ (i : Nat) x k, ns[i]? = some (x, k) →
    ((k = NameKind.local ∨ k = NameKind.globalImplicit) ∧ (linked ρ js)[i]? = some none) ∨ (k = NameKind.free ∧ ∃ j : Nat, outer[j]? = some (x, NameKind.cell) ∧ (linked ρ js)[i]? = some (ρ[j]?).join)
  | [], [], _, i, x, k, e => by simp at e
  | [], _ :: _, h, _, _, _, _ => by simp [linkOk] at h
  | (_, _) :: _, [], h, _, _, _, _ => by simp [linkOk] at h
  | (y, ky) :: ns, none :: js, h, i, x, k, e => by
    simp only [linkOk, Bool.and_eq_true, Bool.or_eq_true, beq_iff_eq] at h
    cases i with
    | zero => simp only [List.getElem?_cons_zero, Option.some.injEq, Prod.mk.injEq] at e; obtain ⟨rfl, rfl⟩ := e; exact .inl ⟨h.1, rfl⟩
    | succ i => simp only [List.getElem?_cons_succ] at e; exact linkOk_get (ρ := ρ) h.2 i x k e
  | (y, ky) :: ns, some j :: js, h, i, x, k, e => by
    simp only [linkOk, Bool.and_eq_true, beq_iff_eq] at h
    cases i with
    | zero =>
      simp only [List.getElem?_cons_zero, Option.some.injEq, Prod.mk.injEq] at e
      obtain ⟨rfl, rfl⟩ := e
      refine .inr ⟨h.1.1, ?_⟩
      have h2 := h.1.2
      split at h2
      · rename_i z k' hz
        simp only [Bool.and_eq_true, decide_eq_true_eq, beq_iff_eq] at h2
        exact ⟨j, by rw [hz, h2.1, h2.2], rfl⟩
      · cases h2
    | succ i => simp only [List.getElem?_cons_succ] at e; exact linkOk_get (ρ := ρ) h.2 i x k e
theorem LRep.fromX {X X' : Addr → Prop} {h h' : Heap} {bad bad' : Addr → Prop} (R : LRep prog w env X h bad ρ) (st : Stay h bad h' bad') (hx : ∀ a o, X' a → h.get? a = some o → h'.get? a = some o) (hO : ∀ a, Own env a → X' a) (hc : ∀ x a, env.cells.lookup x = some a → X' a) : LRep prog w env X' h' bad' ρ := by
  obtain ⟨m, hm, hv⟩ := R.ns
  have ok : EnvOk env X' := ⟨R.ok.fn, R.ok.nd, R.ok.gl, R.ok.bi, hO, R.ok.inj, R.ok.nl, hc⟩
  refine ⟨ok, ⟨m, hm.at' fun o e => hx _ o (hO _ (.inl rfl)) e, fun i x k pv hi hp => ?_⟩, fun x hx' => let ⟨a, h1, h2, v, o, h3, h4⟩ := R.cl x hx'; ⟨a, h1, hc x a h1, v, o, hx _ o (hc x a h1) h3, h4⟩⟩
  obtain ⟨v, r, hh⟩ := hv i x k pv hi hp
  refine ⟨v, r.stay st, ?_⟩
  rcases hh with hh | ⟨hk', cc, h1, h2, o, h3, h4⟩
  · exact .inl hh
  · exact .inr ⟨hk', cc, h1, hc x cc h1, o, hx _ o (hc x cc h1) h3, h4⟩
theorem Stay.trans {h h' h'' : Heap} {b b' b'' : Addr → Prop} (x : Stay h b h' b') (y : Stay h' b' h'' b'') : Stay h b h'' b'' :=
  ⟨fun a o e z => y.get a o (x.get a o e z) (x.good a o e z), fun a o e z => y.good a o (x.get a o e z) (x.good a o e z)⟩
noncomputable def Only (C : Addr) (a : Addr) : Prop := a = C
structure Left (c : Cx prog w K) (env : Env) (X : Addr → Prop) (ρ : List (Option PV)) (s : Shared) (σ : Sto) (C D : Addr) (acc : List PV) (σ' : Sto) (s' : Shared) : Prop where
  ns : ∃ m, s'.heap.Ns C m
  new : ∀ o, s.heap.get? C = some o → σ C = none → ¬ Own env C → False
  nx : ¬ X C
  S : Sat prog w c.G (And2 X (Only C)) s'.heap σ'
  rep : Rep prog w s'.heap (Bad (And2 X (Only C)) σ') (.lst acc) (.ref D)
  R : LRep prog w env (And2 X (Only C)) s'.heap (Bad (And2 X (Only C)) σ') ρ
  x : Step (Own env) s σ s' σ'
theorem comp_core {elt t iter : PySem.Expr} {ifs : List PySem.Expr} {gs : List Comprehension} {scope : Scope} {pos p₀ pos' : Pos} {js : List (Option Nat)} {emit : Addr → Env → Sem Unit} {EmP : Env → List PV → List (Option PV) → Sto → (List PV → List (Option PV) → Sto → Prop) → Prop}
    {use : Option (Value → Sem Unit)} {Q : List PV → Sto → Prop} {Q' : Value → Shared → Prop}
    (hturn : ∀ I D env, compTurn (.ListComp elt (⟨t, iter, ifs, 0⟩ :: gs) scope pos) 0 (.ref I) (.ref D) env = (do
      standAt p₀
      match ← pyNext (.ref I) with
      | none => pure (.done .next)
      | some v =>
        letOwnedTupleGo t (.ref I) v
        assign t env v
        let mut ok := true
        for c in ifs do
          if ok then ok ← isTrue c env (eval c env)
        if ok then emit D env
        again (.compLoop (.ListComp elt (⟨t, iter, ifs, 0⟩ :: gs) scope pos) 0 (.ref I) (.ref D) env)))
    (hem : ∀ D env acc ρ σ Q, DOk env D → EmP env acc ρ σ Q → Em c n env D (emit D env) acc ρ σ Q)
    (hkind : scope.kind = .function) (nd : (scope.names.map (·.1)).Nodup) (hl : linkOk env.scope.names scope.names js = true) (hf : env.frame = some env.locals)
    (hs : ∀ x, foldedSetIterable iter env x = pure x)
    (h : It c n env t iter ρ σ fun items σ₁ => ∀ C cl, CL c n (compEnvC scope cl C env) t ifs (EmP (compEnvC scope cl C env)) (fun acc _ σ' => Q acc σ') items [] (linked ρ js) σ₁)
    {A : Around} {X : Addr → Prop} {s : Shared} (rm : Room n A) (S : Sat prog w c.G X s.heap σ) (R : LRep prog w env X s.heap (Bad X σ) ρ)
    (hQ : ∀ C D acc σ' s', Left c env X ρ s σ C D acc σ' s' → Q acc σ' → compPost (model prog w) A NoE use Q' (.ref D) C (.ok .next) s') :
    wpAny (model prog w) A (comprehension (.ListComp elt (⟨t, iter, ifs, 0⟩ :: gs) scope pos) scope env pos' (newList []) false (eval iter env) use) Q' NoE s := by
  have hnm : ∀ x ∈ scope.names, x.2 = .local → scope.names.lookup x.1 = some .local := fun x hx e => by
    obtain ⟨i, hi, rfl⟩ := List.mem_iff_getElem.mp hx
    exact lookup_nd (i := i) nd (by rw [List.getElem?_eq_getElem hi, ← e])
  have hget : ∀ x k, (x, k) ∈ scope.names → ∃ i : Nat, scope.names[i]? = some (x, k) := fun x k hx => by
    obtain ⟨i, hi, e⟩ := List.mem_iff_getElem.mp hx
    exact ⟨i, by rw [List.getElem?_eq_getElem hi, e]⟩
  have hcell : ∀ x ∈ scope.names, x.2 ≠ .cell := fun x hx e => by
    obtain ⟨i, hi⟩ := hget x.1 x.2 hx
    rcases linkOk_get (ρ := ρ) hl i _ _ hi with z | z
    · rw [e] at z; rcases z.1 with q | q <;> cases q
    · rw [e] at z; cases z.1
  have hfree : ∀ x, (x, NameKind.free) ∈ scope.names → (x, NameKind.cell) ∈ env.scope.names := fun x hx => by
    obtain ⟨i, hi⟩ := hget x _ hx
    rcases linkOk_get (ρ := ρ) hl i _ _ hi with z | ⟨_, j, hj, _⟩
    · rcases z.1 with q | q <;> cases q
    · exact List.mem_iff_getElem?.mpr ⟨j, hj⟩
  obtain ⟨cl, hcl, hcl1, hcl2⟩ := closure_ok (env := env) (scope := scope) fun x hx => let ⟨a, h1, _⟩ := R.cl x (hfree x hx); ⟨a, h1⟩
  refine wpAny_comprehension_free (g := ⟨t, iter, ifs, 0⟩) (gs := gs) rfl hs hcl hkind hnm (wpAny_mono (h A X s rm S R) (fun xv s₁ h₁ => wpAny_mono h₁ (fun it s₂ q => ?_) fun _ _ x => x.elim) fun _ _ x => x.elim)
  obtain ⟨I, fp, wr, items, base, bvs, St, Out, σ₁, rfl, W, st0, S₂, R₂, rb, hfp, x₂, hwr, hL⟩ := q
  have hXW : ∀ a, X a → ¬ InL wr a := fun a ha z => (hwr a z).1 ha
  have hO := R.ok.own
  refine wpAny_newObj_type (wpAny_newFunctionEnv hcell (by intro y hy; simp at hy) (fun h₁ hns hsb => ?_) hkind)
  dsimp only at hns hsb ⊢
  generalize hH2 : s₂.heap.push { cls := .type "list", dict := none, data := .seq ([] : List Value).toArray } = H2 at hns hsb ⊢
  have hDn : s₂.heap.get? s₂.heap.objs.size = none := size_none _
  have hC : H2.objs.size = s₂.heap.objs.size + 1 := by rw [← hH2, Heap.size_push]
  generalize hDe : s₂.heap.objs.size = D at hDn hC ⊢
  have hDg : H2.get? D = some (listOf ([] : List Value).toArray 0) := by rw [← hH2, ← hDe]; exact Heap.get?_push_size _ rfl
  have hCn : H2.get? H2.objs.size = none := size_none _
  have hup : s₂.heap.StaysIn H2 := by rw [← hH2]; exact push_stays _ _
  generalize H2.objs.size = C at hns hsb hCn hC ⊢
  have hCD : D ≠ C := by rw [hC]; exact Nat.ne_of_lt (Nat.lt_succ_self _)
  have hCn2 : s₂.heap.get? C = none := by
    cases e : s₂.heap.get? C with
    | none => rfl
    | some o => rw [hup _ _ e] at hCn; cases hCn
  have hk₁ : s₂.heap.StaysIn h₁ := fun a o e => hsb.extBut a o (fun z => by rw [z, hCn2] at e; cases e) (Heap.get?_push_of_some _ (hup a o e))
  have hD1 : h₁.get? D = some (listOf ([] : List Value).toArray 0) := hsb.extBut D _ hCD (Heap.get?_push_of_some _ hDg)
  obtain ⟨oC, _, _, hoC, _⟩ := id hns
  let Y : Addr → Prop := fun a => a = D ∨ a = C
  have hYn : ∀ a, Y a → s₂.heap.get? a = none := fun a z => z.elim (fun z => z ▸ hDn) (fun z => z ▸ hCn2)
  have hYl : ∀ a, Y a → ∃ o, h₁.get? a = some o := fun a z => z.elim (fun z => z ▸ ⟨_, hD1⟩) (fun z => z ▸ ⟨_, hoC⟩)
  have ord : ∀ a, And2 (And2 X Y) (InL wr) a → And2 X (InL wr) a ∨ Y a := fun a z => z.elim (fun z => z.elim (fun z => .inl (.inl z)) .inr) fun z => .inl (.inr z)
  have st₁ : Stay s₂.heap (Bad (And2 X (InL wr)) σ₁) h₁ (Bad (And2 (And2 X Y) (InL wr)) σ₁) := (stay_more (X := And2 X (InL wr)) (Y := Y) hk₁ hYn).trans (stay_less ord)
  have S₃ : Sat prog w c.G (And2 (And2 X Y) (InL wr)) h₁ σ₁ := (S₂.more (Y := Y) hk₁ hYn hYl).less ord
  have hXn : ∀ a, X a → a ≠ C ∧ a ≠ D := fun a z => by
    obtain ⟨o, ho⟩ := (S₂.gx a (.inl z)).2.2
    exact ⟨fun y => (by rw [y, hCn2] at ho; cases ho), fun y => (by rw [y, hDn] at ho; cases ho)⟩
  have hfr : env.locals ≠ C ∧ env.locals ≠ D := hXn _ (hO _ (.inl rfl))
  have hcx : ∀ x a, cl.lookup x = some a → X a := fun x a e => R.ok.cx x a (hcl1 x a e)
  have ownC : ∀ a, Own (compEnvC scope cl C env) a → a = C := fun a z => z.elim id fun z => by
    have := z.1
    have e : env.frame = some C := this
    rw [hf] at e
    exact absurd (Option.some.inj e) hfr.1
  have mk : ∀ i x k, (relabel scope env).names[i]? = some (x, k) → ∃ k', scope.names[i]? = some (x, k') ∧ ((k = k' ∧ (k' = NameKind.local ∨ k' = NameKind.globalImplicit)) ∨ (k' = NameKind.free ∧ (k = NameKind.cell ∨ k = NameKind.free))) := fun i x k e => by
    unfold relabel at e
    rw [List.getElem?_map, Option.map_eq_some_iff] at e
    obtain ⟨⟨y, k'⟩, hy, e⟩ := e
    dsimp only at e
    split at e
    · rename_i hc
      cases e
      simp only [Bool.and_eq_true, beq_iff_eq] at hc
      exact ⟨k', hy, .inr ⟨hc.1.1, .inl rfl⟩⟩
    · cases e
      refine ⟨k, hy, ?_⟩
      rcases linkOk_get (ρ := ρ) hl i _ _ hy with z | z
      · exact .inl ⟨rfl, z.1⟩
      · exact .inr ⟨z.1, .inr z.1⟩
  have okc : EnvOk (compEnvC scope cl C env) (And2 (And2 X Y) (InL wr)) := by
    refine ⟨hkind, ?_, R.ok.gl, R.ok.bi, fun a z => .inl (.inr (.inr (ownC a z))), fun x y a h1 h2 => R.ok.inj x y a (hcl1 _ _ h1) (hcl1 _ _ h2), fun x a e => (hXn a (hcx x a e)).1, fun x a e => .inl (.inl (hcx x a e))⟩
    show ((relabel scope env).names.map (·.1)).Nodup
    have : (relabel scope env).names.map (·.1) = scope.names.map (·.1) := by
      unfold relabel
      rw [List.map_map]
      refine List.map_congr_left fun x _ => ?_
      simp only [Function.comp]
      split <;> rfl
    rw [this]; exact nd
  obtain ⟨m₂, hm₂, hv₂⟩ := R₂.ns
  have Rc : LRep prog w (compEnvC scope cl C env) (And2 (And2 X Y) (InL wr)) h₁ (Bad (And2 (And2 X Y) (InL wr)) σ₁) (linked ρ js) := by
    refine ⟨okc, ⟨_, hns, fun i x k pv hi hp => ?_⟩, fun x hx => ?_⟩
    · obtain ⟨k', hi', hk'⟩ := mk i x k hi
      rcases linkOk_get (ρ := ρ) hl i _ _ hi' with z | ⟨z, j, hj, hz⟩
      · rw [z.2] at hp; cases hp
      · rw [hz, Option.some.injEq] at hp
        have hkf : k = NameKind.cell ∨ k = NameKind.free := hk'.elim (fun y => by rw [z] at y; rcases y.2 with q | q <;> cases q) (fun y => y.2)
        have hp' : ρ[j]? = some (some pv) := by
          cases q : ρ[j]? with
          | none => rw [q] at hp; cases hp
          | some r => rw [q] at hp; simp only [Option.join_some] at hp; rw [hp]
        obtain ⟨v, r, hh⟩ := hv₂ j x .cell pv hj hp'
        refine ⟨v, r.stay st₁, .inr ⟨hkf, ?_⟩⟩
        rcases hh with hh | ⟨_, cc, h1, h2, o, h3, h4⟩
        · cases hh.1
        · refine ⟨cc, ?_, .inl (.inl (R.ok.cx _ _ h1)), o, hk₁ _ _ h3, h4⟩
          show cl.lookup x = some cc
          rw [hcl2 x (List.mem_iff_getElem?.mpr ⟨i, z ▸ hi'⟩), h1]
    · obtain ⟨i, hi⟩ := List.mem_iff_getElem?.mp hx
      obtain ⟨k', hi', hk'⟩ := mk i x _ hi
      have hkf : k' = NameKind.free := hk'.elim (fun y => by rw [← y.1] at y; rcases y.2 with q | q <;> cases q) (fun y => y.1)
      have hxf : (x, NameKind.free) ∈ scope.names := List.mem_iff_getElem?.mpr ⟨i, hkf ▸ hi'⟩
      obtain ⟨a, h1, h2, v, o, h3, h4⟩ := R₂.cl x (hfree x hxf)
      refine ⟨a, ?_, .inl (.inl (R.ok.cx _ _ h1)), v, o, hk₁ _ _ h3, h4⟩
      show cl.lookup x = some a
      rw [hcl2 x hxf, h1]
  have dok : DOk (compEnvC scope cl C env) D := ⟨hCD, fun x a e => (hXn a (hcx x a e)).2, fun z => hCD (ownC D z)⟩
  have hXY : ∀ a, And2 X Y a → ¬ InL wr a := fun a z => z.elim (hXW a) fun z y => by
    have := (S₂.gx a (.inr y)).2.2
    obtain ⟨o, ho⟩ := this
    rw [hYn a z] at ho; cases ho
  have st1 : St 0 h₁ := W.frame _ _ _ st0 fun b _ o e => hk₁ b o e
  have loop : codeAny (model prog w) A (.compLoop (.ListComp elt (⟨t, iter, ifs, 0⟩ :: gs) scope pos) 0 (.ref I) (.ref D) (compEnvC scope cl C env)) (compPost (model prog w) A NoE use Q' (.ref D) C) { s₂ with heap := h₁, toks := s₂.toks + ([] : List (Str × Value)).length } := by
    refine comp_loop (hturn I D _) rfl rfl rfl rfl (fun acc ρ σ Q z => hem D _ acc ρ σ Q dok z) W st1 rm S₃ Rc (rb.stay st₁) (fun b hb => ?_) hXY (fun a z => .inr (.inr (ownC a z))) (fun x a e => .inl (hcx x a e)) (.inr (.inl rfl)) dok
      ⟨.inl (.inr (.inl rfl)), [], 0, hD1, Reps.nil⟩ (hL C cl) fun s' acc' ρ' σ' S' R' f' x' q => ?_
    · rcases hfp b hb with z | ⟨z, o, ho⟩
      · exact .inl z
      · exact .inr ⟨st₁.good b o ho z, o, hk₁ b o ho⟩
    · -- the end
      have nY : ∀ a, Y a → ¬ X a := fun a z y => z.elim (hXn a y).2 (hXn a y).1
      have hF : ∀ a, And2 (Own (compEnvC scope cl C env)) (And2 (InL [D]) (InL wr)) a → And2 (And2 X Y) (InL wr) a := fun a z => z.elim (fun z => .inl (.inr (.inr (ownC a z)))) fun z => z.elim (fun z => .inl (.inr (.inl (List.mem_singleton.mp z)))) .inr
      have hF' : ∀ a, And2 (Own (compEnvC scope cl C env)) (And2 (InL [D]) (InL wr)) a → Y a ∨ InL wr a := fun a z => z.elim (fun z => .inl (.inr (ownC a z))) fun z => z.elim (fun z => .inl (.inl (List.mem_singleton.mp z))) .inr
      have less : ∀ a, And2 X (Only C) a → And2 X Y a := fun a z => z.elim .inl fun z => .inr (.inr z)
      have sE : Stay s'.heap (Bad (And2 X Y) σ') s'.heap (Bad (And2 X (Only C)) σ') := stay_less less
      have sx : Stay h₁ (Bad (And2 (And2 X Y) (InL wr)) σ₁) s'.heap (Bad (And2 (And2 X Y) (InL wr)) σ') := x'.stay (s := { s₂ with heap := h₁, toks := s₂.toks + ([] : List (Str × Value)).length }) hF
      have sAll : Stay s₂.heap (Bad (And2 X (InL wr)) σ₁) s'.heap (Bad (And2 X (Only C)) σ') := st₁.trans (sx.trans (stay_less fun a z => .inl (less a z)))
      have hnewC : ∀ o, s.heap.get? C = some o → σ C = none → ¬ Own env C → False := fun o e q ho => by rw [x₂.keep C o e q ho] at hCn2; cases hCn2
      obtain ⟨hXD, vs, kk, hDo, rl⟩ := f'
      obtain ⟨mC, hmC, _⟩ := R'.ns
      have LL : Left c env X ρ s σ C D acc' σ' s' := by
        refine ⟨⟨mC, hmC⟩, hnewC, fun z => (hXn C z).1 rfl, S'.less less, ?_, ?_, ?_⟩
        · simp only [Rep]
          refine ⟨D, vs, kk, rfl, fun z => ?_, hDo, rl.stay sE⟩
          rcases z with (z | z) | z
          · exact (hXn D z).2 rfl
          · exact hCD z
          · exact z (S'.gx D (.inr (.inl rfl))).1
        · refine R₂.fromX sAll (fun a o z e => ?_) (fun a z => .inl (hO a z)) fun x a e => .inl (R.ok.cx x a e)
          rcases z with z | z
          · refine x'.keep a o (hk₁ a o e) (S₂.gx a (.inl z)).1 fun y => ?_
            rcases hF' a y with y | y
            · exact nY a y z
            · exact hXW a z y
          · rw [z, hCn2] at e; cases e
        · obtain ⟨h2, tk2, rfl⟩ := x₂.eq
          obtain ⟨h3, tk3, rfl⟩ := x'.eq
          refine ⟨⟨h3, tk3, rfl⟩, fun a o e hn ho => ?_, fun a h1 hn => ?_⟩
          · have e2 := x₂.keep a o e hn ho
            refine x'.keep a o (hk₁ a o e2) (x₂.nn e hn) fun y => ?_
            rcases hF' a y with y | y
            · rw [hYn a y] at e2; cases e2
            · exact (hwr a y).2 o e hn ho
          · cases e : s.heap.get? a with
            | none => rfl
            | some o =>
              by_cases ho : Own env a
              · exact absurd (S'.gx a (.inl (hO a ho))).1 h1
              · have e2 := x₂.keep a o e hn ho
                have := x'.grow a h1 (x₂.nn e hn)
                have e3 := hk₁ a o e2
                rw [e3] at this; cases this
      exact hQ C D acc' σ' s' LL q
  exact codeAny_compStart_list loop (W.again 0 _ _ st1 loop |> fun z => wpAny_mono z (fun _ _ y => y) fun _ _ x => x.elim)
end
section
variable {prog : Program} {w : World} {K : Frag} {c : Cx prog w K} {n : Nat} {env cenv : Env} {ρ ρ' : List (Option PV)} {σ : Sto}
theorem stay_letgo {X : Addr → Prop} {h h' : Heap} {σ : Sto} {C : Addr} (hs : Heap.SameBut C h h') : Stay h (Bad (And2 X (Only C)) σ) h' (Bad X σ) :=
  stay_endIt fun a o e z => hs.extBut a o (fun y => z y) e
theorem Sat.letgo {G : Heap} {X : Addr → Prop} {h h' : Heap} {σ : Sto} {C : Addr} (S : Sat prog w G (And2 X (Only C)) h σ) (hs : Heap.SameBut C h h') (hn : ¬ X C) : Sat prog w G X h' σ :=
  S.endIt (W := Only C) (fun a o e z => hs.extBut a o (fun y => z y) e) fun a z y => hn (y ▸ z)
theorem LRep.letgo {X : Addr → Prop} {h h' : Heap} {σ : Sto} {C : Addr} (R : LRep prog w env (And2 X (Only C)) h (Bad (And2 X (Only C)) σ) ρ) (hs : Heap.SameBut C h h') (hn : ¬ X C) (ok : EnvOk env X) : LRep prog w env X h' (Bad X σ) ρ :=
  R.fromX (stay_letgo hs) (fun a o z e => hs.extBut a o (fun y => hn (y ▸ z)) e) ok.own ok.cx
theorem Step.letgo {s s' : Shared} {σ σ' : Sto} {C : Addr} {h' : Heap} (x : Step (Own env) s σ s' σ') (hs : Heap.SameBut C s'.heap h') (new : ∀ o, s.heap.get? C = some o → σ C = none → ¬ Own env C → False) : Step (Own env) s σ { s' with heap := h' } σ' := by
  obtain ⟨h2, tk, rfl⟩ := x.eq
  exact ⟨⟨h', tk, rfl⟩, fun a o e hn ho => hs.extBut a o (fun y => new o (y ▸ e) (y ▸ hn) (y ▸ ho)) (x.keep a o e hn ho), x.grow⟩
noncomputable def EltP (c : Cx prog w K) (n : Nat) (elt : PySem.Expr) (env : Env) (acc : List PV) (ρ : List (Option PV)) (σ : Sto) (Q : List PV → List (Option PV) → Sto → Prop) : Prop :=
  acc.length ≤ 100000 ∧ Ev c n env elt ρ σ fun p σ' => Q (acc ++ [p]) ρ σ'
theorem Ev.comp {elt t iter : PySem.Expr} {ifs : List PySem.Expr} {scope : Scope} {pos : Pos} {Q : PV → Sto → Prop} (js : List (Option Nat))
    (h : It c n env t iter ρ σ fun items σ₁ => ∀ C cl, CL c n (compEnvC scope cl C env) t ifs (EltP c n elt (compEnvC scope cl C env)) (fun acc _ σ' => Q (.lst acc) σ') items [] (linked ρ js) σ₁)
    (hkind : scope.kind = .function := by rfl) (nd : (scope.names.map (·.1)).Nodup := by decide) (hl : linkOk env.scope.names scope.names js = true := by rfl) (hf : env.frame = some env.locals := by rfl)
    (hs : ∀ x, foldedSetIterable iter env x = pure x := by intro _; rfl) : Ev c n env (.ListComp elt [⟨t, iter, ifs, 0⟩] scope pos) ρ σ Q := fun A X s rm S R => by
  rw [eval_ListComp]
  refine comp_core (use := none) (emit := fun D env => do let _ ← PySem.call (.builtin "list.append") [.ref D, ← eval elt env]) (EmP := EltP c n elt) (Q := fun acc σ' => Q (.lst acc) σ') (fun I D env => compTurn_list elt t iter ifs scope pos (.ref I) (.ref D) env) (fun D env acc ρ σ Q hD z => Em.elt hD z.1 z.2) hkind nd hl hf hs h rm S R fun C D acc σ' s' L q => ?_
  obtain ⟨m, hm⟩ := L.ns
  exact ⟨m, hm, fun h' hs' => ⟨.lst acc, σ', L.rep.stay (stay_letgo hs'), L.S.letgo hs' L.nx, L.R.letgo hs' L.nx R.ok, L.x.letgo hs' L.new, q⟩⟩
theorem Ex.assignComp {elt t iter : PySem.Expr} {ifs : List PySem.Expr} {scope : Scope} {x : Str} {px cpos pos : Pos} {i : Nat} {Q : FV → List (Option PV) → Sto → Prop} (js : List (Option Nat)) (hi : env.scope.names[i]? = some (x, .local))
    (h : It c n env t iter ρ σ fun items σ₁ => ∀ C cl, CL c n (compEnvC scope cl C env) t ifs (EltP c n elt (compEnvC scope cl C env)) (fun acc _ σ' => Q .next (ρ.set i (some (.lst acc))) σ') items [] (linked ρ js) σ₁)
    (hkind : scope.kind = .function := by rfl) (nd : (scope.names.map (·.1)).Nodup := by decide) (hl : linkOk env.scope.names scope.names js = true := by rfl) (hf : env.frame = some env.locals := by rfl)
    (hs : ∀ x, foldedSetIterable iter env x = pure x := by intro _; rfl) (hsw : swapsWith (.ListComp elt [⟨t, iter, ifs, 0⟩] scope cpos) (some (.Name x px)) pos.line env = pure true := by rfl) :
    Ex c n env (.Assign [.Name x px] (.ListComp elt [⟨t, iter, ifs, 0⟩] scope cpos) pos) ρ σ Q := fun A X s rm S R => by
  rw [exec_Assign_Name_used _ _ _ _ hsw]
  refine wpAny_bind (wpAny_standAt (wpAny_bind ?_))
  show wpAny _ A (do let _ ← comprehension (.ListComp elt [⟨t, iter, ifs, 0⟩] scope cpos) scope env _ (newList []) false (eval iter env) (some (PySem.assign (.Name x px) env))) _ _ s
  refine wpAny_bind (wpAny_mono (Q := fun _ s' => SPost c env X s σ Q .next s') ?_ (fun _ s' hq => wpAny_pure (wpAny_pure hq)) fun _ _ e => e)
  refine comp_core (emit := fun D env => do let _ ← PySem.call (.builtin "list.append") [.ref D, ← eval elt env]) (EmP := EltP c n elt) (Q := fun acc σ' => Q .next (ρ.set i (some (.lst acc))) σ') (fun I D env => compTurn_list elt t iter ifs scope cpos (.ref I) (.ref D) env) (fun D env acc ρ σ Q hD z => Em.elt hD z.1 z.2) hkind nd hl hf hs h rm S R fun C D acc σ' s' L q => ?_
  obtain ⟨m, hm⟩ := L.ns
  refine wpAny_mono (As.name (c := c) (n := n) (p := .lst acc) hi (.inl rfl) A _ s' σ' (.ref D) rm L.S L.R L.rep) (fun _ s₂ ⟨S₂, R₂, x₂⟩ => ?_) fun _ _ x => x
  have hC : σ' C = none := (L.S.gx C (.inr rfl)).1
  refine ⟨m, hm.at' fun o e => x₂.keep C o e hC fun z => L.nx (R.ok.own C z), fun h' hs' => ?_⟩
  exact ⟨.next, _, σ', rfl, S₂.letgo hs' L.nx, R₂.letgo hs' L.nx R.ok, (L.x.trans x₂ L.S L.R.ok.own).letgo hs' L.new, q⟩
theorem CL.inv {t elt : PySem.Expr} {ifs : List PySem.Expr} {tgt : PV → List (Option PV) → List (Option PV)} {Q : List PV → List (Option PV) → Sto → Prop} {items : List PV} (I : Nat → List PV → Sto → Prop) (ρc : List (Option PV))
    (has : ∀ p ρ, p ∈ items → As c n cenv t p ρ (tgt p ρ)) (hid : ∀ p q ρ, p ∈ items → q ∈ items → tgt q (tgt p ρ) = tgt q ρ)
    (h : ∀ (k : Nat) p acc σ, items[k]? = some p → I k acc σ → ∃ b, Tests c n cenv ifs (tgt p ρc) σ b ∧ (b = true → acc.length ≤ 100000 ∧ Ev c n cenv elt (tgt p ρc) σ fun v σ' => I (k + 1) (acc ++ [v]) σ') ∧ (b = false → I (k + 1) acc σ))
    (hq : ∀ acc ρ σ, I items.length acc σ → Q acc ρ σ) : ∀ acc σ, I 0 acc σ → CL c n cenv t ifs (EltP c n elt cenv) Q items acc ρc σ := by
  have key : ∀ (l : List PV) (k : Nat) acc σ ρ, items.drop k = l → k ≤ items.length → (∀ q, q ∈ items → tgt q ρ = tgt q ρc) → I k acc σ → CL c n cenv t ifs (EltP c n elt cenv) Q l acc ρ σ := by
    intro l
    induction l with
    | nil =>
      intro k acc σ ρ hd hle _ hI
      have hk : items.length ≤ k := List.drop_eq_nil_iff.mp hd
      have : k = items.length := Nat.le_antisymm hle hk
      subst this
      exact hq acc ρ σ hI
    | cons p l ih =>
      intro k acc σ ρ hd hle hρ hI
      have hk : items[k]? = some p := by
        have := congrArg (fun l : List PV => l[0]?) hd
        simpa using this
      have hlt : k < items.length := (List.getElem?_eq_some_iff.mp hk).1
      have hd' : items.drop (k + 1) = l := by
        rw [← List.drop_drop, hd]; rfl
      obtain ⟨b, ht, h1, h2⟩ := h k p acc σ hk hI
      have hpm : p ∈ items := List.mem_of_getElem? hk
      refine ⟨tgt p ρc, b, hρ p hpm ▸ has p ρ hpm, ht, fun e => ⟨(h1 e).1, Ev.mono (h1 e).2 fun v σ' z => ih (k + 1) _ σ' _ hd' hlt (fun q hq => hid p q ρc hpm hq) z⟩, fun e => ih (k + 1) _ σ _ hd' hlt (fun q hq => hid p q ρc hpm hq) (h2 e)⟩
  intro acc σ hI
  exact key items 0 acc σ ρc rfl (Nat.zero_le _) (fun _ _ => rfl) hI
theorem CL.map {t elt : PySem.Expr} {tgt : PV → List (Option PV) → List (Option PV)} {Q : List PV → List (Option PV) → Sto → Prop} {items : List PV} {ρc : List (Option PV)} (f : PV → PV)
    (has : ∀ p ρ, p ∈ items → As c n cenv t p ρ (tgt p ρ)) (hid : ∀ p q ρ, p ∈ items → q ∈ items → tgt q (tgt p ρ) = tgt q ρ) (hlen : items.length ≤ 100000)
    (h : ∀ p, p ∈ items → De c n cenv (tgt p ρc) σ elt (f p)) (hq : ∀ ρ, Q (items.map f) ρ σ) : CL c n cenv t [] (EltP c n elt cenv) Q items [] ρc σ := by
  refine CL.inv (I := fun k acc σ' => acc = (items.take k).map f ∧ σ' = σ) ρc has hid (fun k p acc σ' hk hI => ?_) (fun acc ρ σ' hI => ?_) [] σ ⟨by simp, rfl⟩
  · obtain ⟨rfl, rfl⟩ := hI
    have hlt : k < items.length := (List.getElem?_eq_some_iff.mp hk).1
    refine ⟨true, rfl, fun _ => ⟨?_, (h p (List.mem_of_getElem? hk)).ev ⟨?_, rfl⟩⟩, fun e => by cases e⟩
    · rw [List.length_map, List.length_take]; (first | lia | omega)
    · rw [List.take_add_one, hk]; simp
  · obtain ⟨rfl, rfl⟩ := hI
    rw [List.take_length]; exact hq ρ
theorem CL.mapName {i : Nat} {x : Str} {pos : Pos} {elt : PySem.Expr} {Q : List PV → List (Option PV) → Sto → Prop} {items : List PV} {ρc : List (Option PV)} (f : PV → PV) (hi : cenv.scope.names[i]? = some (x, .local)) (hlen : items.length ≤ 100000)
    (h : ∀ p, p ∈ items → De c n cenv (ρc.set i (some p)) σ elt (f p)) (hq : ∀ ρ, Q (items.map f) ρ σ) : CL c n cenv (.Name x pos) [] (EltP c n elt cenv) Q items [] ρc σ :=
  CL.map (tgt := fun p ρ => ρ.set i (some p)) f (fun p ρ _ => As.name hi (.inl rfl)) (fun p q ρ _ _ => List.set_set ..) hlen h hq
end
section
variable {prog : Program} {w : World} {A : Around} {E : Value → Shared → Prop} {s : Shared}
theorem next_tuple {it t : Addr} {i : Nat} {xs : Array Value} {x : Value} {Q : Value → Shared → Prop} (hit : s.heap.IsTupleIter it t i) (ht : s.heap.IsTuple t xs) (hx : xs[i]? = some x)
    (hQ : ∀ h', h'.IsTupleIter it t (i + 1) → Heap.SameBut it s.heap h' → Q x { s with heap := h' }) : wpAny (model prog w) A (Builtin.SmallTypes.nextOf (.ref it)) Q E s := by
  obtain ⟨o, ho, hc, hd⟩ := id hit
  obtain ⟨ot, hot, _, _, hdt⟩ := ht
  unfold Builtin.SmallTypes.nextOf
  refine wpAny_bind (wpAny_callSpecial?_slot (name := Str.ofString "__next__") hit.typeIs F.slot_tuple_iterator_next (wpAny_call_entry F.slot_tuple_iterator_next hit.typeIs F.entry_tuple_iterator_next ?_ (F.args_tuple_iterator_next_1 _)))
  show wpAny _ _ (field (.ref it) 0 >>= _) _ _ s
  refine wpAny_bind (wpAny_field ho hd (x := .ref t) rfl ?_)
  show wpAny _ _ (if (Value.ref t == Value.none) = true then _ else _) _ _ s
  rw [if_neg (show ¬ ((Value.ref t == Value.none) = true) from Bool.false_ne_true)]
  show wpAny _ _ (field (.ref it) 1 >>= _) _ _ s
  refine wpAny_bind (wpAny_field ho hd (x := .int i 0) rfl ?_)
  show wpAny _ _ (seqItems? (.ref t) >>= _) _ _ s
  refine wpAny_bind (wpAny_seqItems hot hdt ?_)
  simp only [Int.toNat_natCast, hx]
  refine wpAny_bind (wpAny_setField ho hd (by simp) (wpAny_pure ⟨x, rfl, wpAny_pure (hQ _ ⟨_, Heap.get?_update_self _ ho (Obj.isFreed_of_fields (Obj.data_mapFields hd _)), (Obj.cls_mapFields ..).trans hc, ?_⟩ (Heap.SameBut.update ..))⟩))
  rw [Obj.data_mapFields hd]; simp [rawInt]
noncomputable def SeqIt (h : Heap) (i a : Addr) (k : Nat) (xs : Array Value) : Prop := (h.IsListIter i a k ∧ h.IsList a xs) ∨ (h.IsTupleIter i a k ∧ h.IsTuple a xs)
noncomputable def SeqAt (h : Heap) (a : Addr) (xs : Array Value) : Prop := h.IsList a xs ∨ h.IsTuple a xs
theorem SeqIt.at {h h' : Heap} {i a : Addr} {k : Nat} {xs : Array Value} (x : SeqIt h i a k xs) (h1 : ∀ o, h.get? i = some o → h'.get? i = some o) (h2 : ∀ o, h.get? a = some o → h'.get? a = some o) : SeqIt h' i a k xs :=
  x.elim (fun ⟨p, q⟩ => .inl ⟨p.at h1, q.at h2⟩) fun ⟨p, ⟨o, ho, r⟩⟩ => .inr ⟨p.at h1, ⟨o, h2 o ho, r⟩⟩
theorem SeqIt.live {h : Heap} {i a : Addr} {k : Nat} {xs : Array Value} (x : SeqIt h i a k xs) : ∃ o, h.get? i = some o :=
  x.elim (fun ⟨⟨o, ho, _⟩, _⟩ => ⟨o, ho⟩) fun ⟨⟨o, ho, _⟩, _⟩ => ⟨o, ho⟩
theorem SeqIt.next {i a : Addr} {k : Nat} {xs : Array Value} {x : Value} {Q : Value → Shared → Prop} (st : SeqIt s.heap i a k xs) (hne : a ≠ i) (hx : xs[k]? = some x)
    (hQ : ∀ h', SeqIt h' i a (k + 1) xs → Heap.SameBut i s.heap h' → Q x { s with heap := h' }) : wpAny (model prog w) A (Builtin.SmallTypes.nextOf (.ref i)) Q E s := by
  rcases st with ⟨p, q⟩ | ⟨p, q⟩
  · exact wpAny_nextOf_list_item p q hx fun h' p' hs => hQ h' (.inl ⟨p', q.extBut hs.extBut hne⟩) hs
  · exact next_tuple p q hx fun h' p' hs => hQ h' (.inr ⟨p', q.extBut hs.extBut hne⟩) hs
theorem next_tuple_end {it t : Addr} {i : Nat} {xs : Array Value} {Q : Value → Shared → Prop} (hh : A.handled = none) (hit : s.heap.IsTupleIter it t i) (ht : s.heap.IsTuple t xs) (hx : xs[i]? = none)
    (hE : ∀ h' e, Heap.ExtBut it s.heap h' → (∃ o, h'.get? e = some o ∧ o.cls = .type "StopIteration") → E (.ref e) { s with heap := h' }) : wpAny (model prog w) A (Builtin.SmallTypes.nextOf (.ref it)) Q E s := by
  obtain ⟨o, ho, hc, hd⟩ := id hit
  obtain ⟨ot, hot, _, _, hdt⟩ := ht
  unfold Builtin.SmallTypes.nextOf
  refine wpAny_bind (wpAny_callSpecial?_slot (name := Str.ofString "__next__") hit.typeIs F.slot_tuple_iterator_next (wpAny_call_entry F.slot_tuple_iterator_next hit.typeIs F.entry_tuple_iterator_next ?_ (F.args_tuple_iterator_next_1 _)))
  show wpAny _ _ (field (.ref it) 0 >>= _) _ _ s
  refine wpAny_bind (wpAny_field ho hd (x := .ref t) rfl ?_)
  show wpAny _ _ (if (Value.ref t == Value.none) = true then _ else _) _ _ s
  rw [if_neg (show ¬ ((Value.ref t == Value.none) = true) from Bool.false_ne_true)]
  show wpAny _ _ (field (.ref it) 1 >>= _) _ _ s
  refine wpAny_bind (wpAny_field ho hd (x := .int i 0) rfl ?_)
  show wpAny _ _ (seqItems? (.ref t) >>= _) _ _ s
  refine wpAny_bind (wpAny_seqItems hot hdt ?_)
  simp only [Int.toNat_natCast, hx]
  refine wpAny_bind (wpAny_rule (wpAny_bind (wpAny_setField ho hd (by simp) ?_)))
  show wpAny _ _ (newExc (.type "StopIteration") [] >>= _) _ _ _
  refine wpAny_bind ?_
  simp only [newExc, newTuple]
  refine wpAny_bind (wpAny_newObj_type ?_ (by size_fits))
  refine wpAny_bind (m := firstArgMember _ _) (wpAny_of_eq (a := Value.none) (by first | rfl | (simp only [firstArgMember]; rfl)) ?_)
  refine wpAny_newObj_type ?_ (by size_fits)
  simp only [raiseNew]
  refine wpAny_bind (wpAny_handled ?_)
  first | rw [show A.in1.handled = none from hh] | rw [hh]
  refine wpAny_bind (wpAny_pure (wpAny_throw ?_))
  exact hE _ _ (((Heap.SameBut.update ..).extBut.push _).push _) ⟨_, Heap.get?_push_size _ rfl, rfl⟩
theorem SeqIt.stop {i a : Addr} {k : Nat} {xs : Array Value} {Q : Value → Shared → Prop} (hh : A.handled = none) (st : SeqIt s.heap i a k xs) (hx : xs[k]? = none)
    (hE : ∀ h' e, Heap.ExtBut i s.heap h' → (∃ o, h'.get? e = some o ∧ o.cls = .type "StopIteration") → E (.ref e) { s with heap := h' }) : wpAny (model prog w) A (Builtin.SmallTypes.nextOf (.ref i)) Q E s := by
  rcases st with ⟨p, q⟩ | ⟨p, q⟩
  · exact wpAny_nextOf_list_end hh p q hx hE
  · exact next_tuple_end hh p q hx hE
structure ZSt (h : Heap) (z TI TO i1 i2 a1 a2 : Addr) (k : Nat) (xs ys : Array Value) (f0 : Value) : Prop where
  z : IsZip h z TI TO f0
  ti : IsPair h TI (.ref i1) (.ref i2)
  to : ∃ u v, IsPair h TO u v
  s1 : SeqIt h i1 a1 k xs
  s2 : SeqIt h i2 a2 k ys
theorem ZSt.at {h h' : Heap} {z TI TO i1 i2 a1 a2 : Addr} {k : Nat} {xs ys : Array Value} {f0 : Value} (x : ZSt h z TI TO i1 i2 a1 a2 k xs ys f0) (hk : ∀ b ∈ [z, TI, TO, i1, i2, a1, a2], ∀ o, h.get? b = some o → h'.get? b = some o) : ZSt h' z TI TO i1 i2 a1 a2 k xs ys f0 :=
  let ⟨u, v, e⟩ := x.to
  ⟨hk z (by simp) _ x.z, hk TI (by simp) _ x.ti, ⟨u, v, hk TO (by simp) _ e⟩, x.s1.at (hk i1 (by simp)) (hk a1 (by simp)), x.s2.at (hk i2 (by simp)) (hk a2 (by simp))⟩
theorem zip_item {z TI TO i1 i2 a1 a2 : Addr} {k : Nat} {xs ys : Array Value} {x y : Value} {Q : Option Value → Shared → Prop} (D : ZipApart z TI TO i1 i2 a1 a2) (st : ZSt s.heap z TI TO i1 i2 a1 a2 k xs ys .none) (hx : xs[k]? = some x) (hy : ys[k]? = some y)
    (hQ : ∀ h', ZSt h' z TI TO i1 i2 a1 a2 (k + 1) xs ys (rawInt s.heap.objs.size) → IsPair h' s.heap.objs.size x y → (∀ b o, b ≠ z → b ≠ TO → b ≠ i1 → b ≠ i2 → s.heap.get? b = some o → h'.get? b = some o) → Q (some (.ref s.heap.objs.size)) { s with heap := h' }) :
    wpAny (model prog w) A (pyNext (.ref z)) Q E s := by
  obtain ⟨hz, hTI, ⟨u, v, hTO⟩, s1, s2⟩ := st
  have hT : s.TypeIs (.ref z) "zip" := ⟨_, hz, rfl⟩
  unfold pyNext
  refine wpAny_bind (wpAny_attempt (wpAny_callSpecial?_slot (name := Str.ofString "__next__") hT F.slot_zip_next (wpAny_call_entry F.slot_zip_next hT F.entry_zip_next ?_ (F.args_zip_next_1 _))))
  show wpAny _ _ (field (.ref z) 2 >>= _) _ _ _
  refine wpAny_bind (wpAny_field hz rfl (x := .bool false) rfl ?_)
  show wpAny _ _ (field (.ref z) 3 >>= _) _ _ _
  refine wpAny_bind (wpAny_field hz rfl (x := .ref TI) rfl ?_)
  refine wpAny_bind (wpAny_seqItems hTI rfl ?_)
  show wpAny _ _ (Builtin.SmallTypes.ownedTupleIsFree (.ref z) >>= _) _ _ _
  refine wpAny_bind ?_
  unfold Builtin.SmallTypes.ownedTupleIsFree
  refine wpAny_bind (wpAny_field hz rfl (x := .none) rfl (wpAny_pure ?_))
  simp only [if_true]
  refine wpAny_bind (wpAny_rule (wpAny_bind (wpAny_field hz rfl (x := .ref TO) rfl (wpAny_bind (wpAny_setField_rec hz (by simp) fun h₁ hz₁ e₁ => ?_)))))
  replace hz₁ : IsZip h₁ z TI TO .ellipsis := hz₁
  have s1₁ := s1.at (fun o e => e₁.extBut _ o D.i1z e) (fun o e => e₁.extBut _ o D.l1z e)
  have s2₁ := s2.at (fun o e => e₁.extBut _ o D.i2z e) (fun o e => e₁.extBut _ o D.l2z e)
  refine wpAny_bind ?_
  simp only [List.zipIdx_cons, List.zipIdx_nil, List.forIn_cons, List.forIn_nil]
  refine wpAny_bind (wpAny_bind (wpAny_onRaise ?_))
  show wpAny _ _ (Builtin.SmallTypes.nextOf (.ref i1) >>= _) _ _ _
  refine wpAny_bind (s1₁.next D.l1i1 hx fun h₂ s1₂ e₂ => wpAny_pure ?_)
  have s2₂ := s2₁.at (fun o e => e₂.extBut _ o D.i12.symm e) (fun o e => e₂.extBut _ o D.l2i1 e)
  have hTO₂ : IsPair h₂ TO u v := e₂.extBut _ _ D.TOi1 (e₁.extBut _ _ D.TOz hTO)
  refine wpAny_bind (wpAny_seqItems hTO₂ rfl (wpAny_bind (wpAny_updateSeq_pair hTO₂ fun h₃ hTO₃ e₃ => ?_)))
  replace hTO₃ : IsPair h₃ TO x v := hTO₃
  have s2₃ := s2₂.at (fun o e => e₃.extBut _ o D.TOi2.symm e) (fun o e => e₃.extBut _ o D.l2TO e)
  refine wpAny_bind (wpAny_letGo (wpAny_pure (wpAny_bind (wpAny_bind (wpAny_onRaise ?_)))))
  show wpAny _ _ (Builtin.SmallTypes.nextOf (.ref i2) >>= _) _ _ _
  refine wpAny_bind (s2₃.next D.l2i2 hy fun h₄ s2₄ e₄ => wpAny_pure ?_)
  have hTO₄ : IsPair h₄ TO x v := e₄.extBut _ _ D.TOi2 hTO₃
  refine wpAny_bind (wpAny_seqItems hTO₄ rfl (wpAny_bind (wpAny_updateSeq_pair hTO₄ fun h₅ hTO₅ e₅ => ?_)))
  replace hTO₅ : IsPair h₅ TO x y := hTO₅
  refine wpAny_bind (wpAny_letGo (wpAny_pure (wpAny_pure (wpAny_bind (wpAny_seqItems hTO₅ rfl (wpAny_bind (wpAny_newTuple ?_)))))))
  have hsz : h₅.objs.size = s.heap.objs.size := by rw [e₅.1, e₄.1, e₃.1, e₂.1, e₁.1]
  have hz₅ : IsZip h₅ z TI TO .ellipsis := e₅.extBut _ _ D.TOz.symm (e₄.extBut _ _ D.i2z.symm (e₃.extBut _ _ D.TOz.symm (e₂.extBut _ _ D.i1z.symm hz₁)))
  have up5 : ∀ b o, b ≠ z → b ≠ TO → b ≠ i1 → b ≠ i2 → s.heap.get? b = some o → h₅.get? b = some o := fun b o c1 c2 c3 c4 e => e₅.extBut _ _ c2 (e₄.extBut _ _ c4 (e₃.extBut _ _ c2 (e₂.extBut _ _ c3 (e₁.extBut _ _ c1 e))))
  have s1₅ : SeqIt h₅ i1 a1 (k + 1) xs := s1₂.at (fun o e => e₅.extBut _ _ D.TOi1.symm (e₄.extBut _ _ D.i12 (e₃.extBut _ _ D.TOi1.symm e))) fun o e => e₅.extBut _ _ D.l1TO (e₄.extBut _ _ D.l1i2 (e₃.extBut _ _ D.l1TO e))
  have s2₅ : SeqIt h₅ i2 a2 (k + 1) ys := s2₄.at (fun o e => e₅.extBut _ _ D.TOi2.symm e) fun o e => e₅.extBut _ _ D.l2TO e
  have hzlt : z < h₅.objs.size := Heap.lt_size hz₅
  show wpAny _ _ (Builtin.SmallTypes.ownedTupleHandOut (.ref z) (.ref h₅.objs.size) >>= _) _ _ _
  refine wpAny_bind ?_
  unfold Builtin.SmallTypes.ownedTupleHandOut
  have hz₆ : IsZip (h₅.push { cls := .type "tuple", data := .seq #[x, y] }) z TI TO .ellipsis := Heap.get?_push_of_some _ hz₅
  refine wpAny_bind (wpAny_setField_rec hz₆ (by simp) fun h₇ hz₇ e₇ => ?_)
  replace hz₇ : IsZip h₇ z TI TO (rawInt h₅.objs.size) := hz₇
  refine wpAny_setField_rec hz₇ (by simp) fun h₈ hz₈ e₈ => ?_
  replace hz₈ : IsZip h₈ z TI TO (rawInt h₅.objs.size) := hz₈
  have up : ∀ b o, b ≠ z → h₅.get? b = some o → h₈.get? b = some o := fun b o c1 e => e₈.extBut _ _ c1 (e₇.extBut _ _ c1 (Heap.get?_push_of_some _ e))
  have hT₈ : IsPair h₈ h₅.objs.size x y := e₈.extBut _ _ (Nat.ne_of_gt hzlt) (e₇.extBut _ _ (Nat.ne_of_gt hzlt) (Heap.get?_push_size _ rfl))
  rw [hsz] at hz₈ hT₈
  refine wpAny_pure ⟨_, rfl, ?_⟩
  rw [hsz]
  exact wpAny_pure (hQ h₈ ⟨hz₈, up _ _ D.TIz (up5 _ _ D.TIz D.TITO D.TIi1 D.TIi2 hTI), ⟨_, _, up _ _ D.TOz hTO₅⟩, s1₅.at (fun o e => up _ o D.i1z e) (fun o e => up _ o D.l1z e), s2₅.at (fun o e => up _ o D.i2z e) (fun o e => up _ o D.l2z e)⟩ hT₈
    fun b o c1 c2 c3 c4 e => up b o c1 (up5 b o c1 c2 c3 c4 e))
end
section
variable {prog : Program} {w : World} {A : Around} {E : Value → Shared → Prop} {s : Shared}
theorem zip_stop {z TI TO i1 i2 a1 a2 : Addr} {k : Nat} {xs ys : Array Value} {Q : Option Value → Shared → Prop} (hh : A.handled = none) (D : ZipApart z TI TO i1 i2 a1 a2) (st : ZSt s.heap z TI TO i1 i2 a1 a2 k xs ys .none) (hend : xs[k]? = none ∨ ys[k]? = none)
    (hQ : ∀ h', (∀ b o, b ≠ z → b ≠ TO → b ≠ i1 → b ≠ i2 → s.heap.get? b = some o → h'.get? b = some o) → Q none { s with heap := h' }) : wpAny (model prog w) A (pyNext (.ref z)) Q E s := by
  obtain ⟨hz, hTI, ⟨u, v, hTO⟩, s1, s2⟩ := st
  have hT : s.TypeIs (.ref z) "zip" := ⟨_, hz, rfl⟩
  unfold pyNext
  have key : ∀ {E' : Value → Shared → Prop} {Q' : Fin → Shared → Prop}, (∀ h' e, (∀ b o, b ≠ z → b ≠ TO → b ≠ i1 → b ≠ i2 → s.heap.get? b = some o → h'.get? b = some o) → (∃ o, h'.get? e = some o ∧ o.cls = .type "StopIteration") → E' (.ref e) { s with heap := h' }) →
      wpAny (model prog w) A.in1 (Builtin.«zip.__next__» ⟨[.ref z], []⟩) Q' E' s := by
    intro E' Q' hE
    show wpAny _ _ (field (.ref z) 2 >>= _) _ _ _
    refine wpAny_bind (wpAny_field hz rfl (x := .bool false) rfl ?_)
    show wpAny _ _ (field (.ref z) 3 >>= _) _ _ _
    refine wpAny_bind (wpAny_field hz rfl (x := .ref TI) rfl ?_)
    refine wpAny_bind (wpAny_seqItems hTI rfl ?_)
    show wpAny _ _ (Builtin.SmallTypes.ownedTupleIsFree (.ref z) >>= _) _ _ _
    refine wpAny_bind ?_
    unfold Builtin.SmallTypes.ownedTupleIsFree
    refine wpAny_bind (wpAny_field hz rfl (x := .none) rfl (wpAny_pure ?_))
    simp only [if_true]
    refine wpAny_bind (wpAny_rule (wpAny_bind (wpAny_field hz rfl (x := .ref TO) rfl (wpAny_bind (wpAny_setField_rec hz (by simp) fun h₁ hz₁ e₁ => ?_)))))
    replace hz₁ : IsZip h₁ z TI TO .ellipsis := hz₁
    have s1₁ := s1.at (fun o e => e₁.extBut _ o D.i1z e) (fun o e => e₁.extBut _ o D.l1z e)
    have s2₁ := s2.at (fun o e => e₁.extBut _ o D.i2z e) (fun o e => e₁.extBut _ o D.l2z e)
    refine wpAny_bind ?_
    simp only [List.zipIdx_cons, List.zipIdx_nil, List.forIn_cons, List.forIn_nil]
    refine wpAny_bind (wpAny_bind (wpAny_onRaise ?_))
    show wpAny _ _ (Builtin.SmallTypes.nextOf (.ref i1) >>= _) _ _ _
    cases hx : xs[k]? with
    | none =>
      refine wpAny_bind (s1₁.stop hh hx fun h₂ e e₂ ⟨oe, hoe, hce⟩ => ?_)
      have hz₂ : IsZip h₂ z TI TO .ellipsis := e₂ _ _ D.i1z.symm hz₁
      have hez : e ≠ z := fun x => by subst x; rw [hz₂] at hoe; cases hoe; simp at hce
      refine wpAny_setField_rec hz₂ (by simp) fun h₃ _ e₃ => hE h₃ e (fun b o c1 _ c3 _ x => e₃.extBut _ _ c1 (e₂ _ _ c3 (e₁.extBut _ _ c1 x))) ⟨oe, e₃.extBut _ _ hez hoe, hce⟩
    | some x =>
      have hy : ys[k]? = none := hend.elim (fun h => by rw [hx] at h; cases h) id
      refine wpAny_bind (s1₁.next D.l1i1 hx fun h₂ s1₂ e₂ => wpAny_pure ?_)
      have s2₂ := s2₁.at (fun o e => e₂.extBut _ o D.i12.symm e) (fun o e => e₂.extBut _ o D.l2i1 e)
      have hTO₂ : IsPair h₂ TO u v := e₂.extBut _ _ D.TOi1 (e₁.extBut _ _ D.TOz hTO)
      refine wpAny_bind (wpAny_seqItems hTO₂ rfl (wpAny_bind (wpAny_updateSeq_pair hTO₂ fun h₃ hTO₃ e₃ => ?_)))
      have s2₃ := s2₂.at (fun o e => e₃.extBut _ o D.TOi2.symm e) (fun o e => e₃.extBut _ o D.l2TO e)
      refine wpAny_bind (wpAny_letGo (wpAny_pure (wpAny_bind (wpAny_bind (wpAny_onRaise ?_)))))
      show wpAny _ _ (Builtin.SmallTypes.nextOf (.ref i2) >>= _) _ _ _
      refine wpAny_bind (s2₃.stop hh hy fun h₄ e e₄ ⟨oe, hoe, hce⟩ => ?_)
      have hz₄ : IsZip h₄ z TI TO .ellipsis := e₄ _ _ D.i2z.symm (e₃.extBut _ _ D.TOz.symm (e₂.extBut _ _ D.i1z.symm hz₁))
      have hez : e ≠ z := fun x => by subst x; rw [hz₄] at hoe; cases hoe; simp at hce
      refine wpAny_setField_rec hz₄ (by simp) fun h₅ _ e₅ => hE h₅ e (fun b o c1 c2 c3 c4 x => e₅.extBut _ _ c1 (e₄ _ _ c4 (e₃.extBut _ _ c2 (e₂.extBut _ _ c3 (e₁.extBut _ _ c1 x))))) ⟨oe, e₅.extBut _ _ hez hoe, hce⟩
  refine wpAny_bind (wpAny_attempt (wpAny_callSpecial?_slot (name := Str.ofString "__next__") hT F.slot_zip_next (wpAny_call_entry F.slot_zip_next hT F.entry_zip_next (key fun h' e hk he => ?_) (F.args_zip_next_1 _))))
  obtain ⟨o, ho, hc⟩ := he
  exact wpAny_bind (wpAny_isInstance (T := "StopIteration") (b := true) ⟨o, ho, hc⟩ isSubtype_stop (wpAny_pure (hQ _ hk)))
noncomputable def itOf (k : Bool) : String := if k then "list_iterator" else "tuple_iterator"
noncomputable def SeqK (k : Bool) (h : Heap) (a : Addr) (xs : Array Value) : Prop := if k then h.IsList a xs else h.IsTuple a xs
theorem SeqK.push {k : Bool} {h : Heap} {a : Addr} {xs : Array Value} (x : SeqK k h a xs) (o : Obj) : SeqK k (h.push o) a xs := by
  cases k
  · exact Heap.IsTuple.push (h := h) x o
  · exact Heap.IsList.push (h := h) x o
theorem pyIter_seq {k : Bool} {a : Addr} {xs : Array Value} {Q : Value → Shared → Prop} (x : SeqK k s.heap a xs) (h : Q (.ref s.heap.objs.size) { s with heap := s.heap.push { cls := .type (itOf k), data := .fields #[.ref a, .int 0 0] } }) : wpAny (model prog w) A (pyIter (.ref a)) Q E s := by
  cases k
  · exact wpAny_pyIter_tuple (ht := x) h
  · exact wpAny_pyIter_list (show s.heap.IsList a xs from x) h
theorem seqIt_new {k : Bool} {h : Heap} {i a : Addr} {xs : Array Value} (x : SeqK k h a xs) (e : h.get? i = some { cls := .type (itOf k), data := .fields #[.ref a, .int 0 0] }) : SeqIt h i a 0 xs := by
  cases k
  · exact .inr ⟨⟨_, e, rfl, rfl⟩, x⟩
  · exact .inl ⟨⟨_, e, rfl, rfl⟩, x⟩
noncomputable abbrev zh1 (k1 : Bool) (h : Heap) (a1 : Addr) : Heap := h.push { cls := .type (itOf k1), data := .fields #[.ref a1, .int 0 0] }
noncomputable abbrev zh2 (k1 k2 : Bool) (h : Heap) (a1 a2 : Addr) : Heap := (zh1 k1 h a1).push { cls := .type (itOf k2), data := .fields #[.ref a2, .int 0 0] }
noncomputable abbrev zh3 (k1 k2 : Bool) (h : Heap) (a1 a2 : Addr) : Heap := (zh2 k1 k2 h a1 a2).push { cls := .type "tuple", data := .seq #[.ref h.objs.size, .ref (zh1 k1 h a1).objs.size] }
noncomputable abbrev zh4 (k1 k2 : Bool) (h : Heap) (a1 a2 : Addr) : Heap := (zh3 k1 k2 h a1 a2).push { cls := .type "tuple", data := .seq #[.none, .none] }
noncomputable abbrev zh5 (k1 k2 : Bool) (h : Heap) (a1 a2 : Addr) : Heap := (zh4 k1 k2 h a1 a2).push { cls := .type "zip", data := .fields #[.none, .bool false, .bool false, .ref (zh2 k1 k2 h a1 a2).objs.size, .ref (zh3 k1 k2 h a1 a2).objs.size] }
theorem meets_zip (k1 k2 : Bool) (a1 a2 : Addr) (xs ys : Array Value) :
    Meets (Builtin.«zip.__new__» ⟨[.type "zip", .ref a1, .ref a2], []⟩) (fun _ R s => SeqK k1 s.heap a1 xs ∧ SeqK k2 s.heap a2 ys ∧ R (.ok (.ret (.ref (zh4 k1 k2 s.heap a1 a2).objs.size))) { s with heap := zh5 k1 k2 s.heap a1 a2 }) :=
  .of_wp fun prog w A R s h => by
    obtain ⟨hp, g, d, tk, os⟩ := s; obtain ⟨hl1, hl2, h⟩ := h
    have hsub := sub_zip
    have hL1 : SeqK k1 (Shared.heap ⟨hp, g, d, tk, os⟩) a1 xs := hl1
    have hL2 : SeqK k2 (Shared.heap ⟨hp.push { cls := .type (itOf k1), data := .fields #[.ref a1, .int 0 0] }, g, d, tk, os⟩) a2 ys := SeqK.push hl2 _
    wp_walk using pyIter_seq hL1, pyIter_seq hL2
    exact ⟨_, rfl, h⟩
theorem call_zip {k1 k2 : Bool} {a1 a2 : Addr} {xs ys : Array Value} {Q : Value → Shared → Prop} (hl1 : SeqK k1 s.heap a1 xs) (hl2 : SeqK k2 s.heap a2 ys)
    (h : ∀ h', ZSt h' (s.heap.objs.size + 4) (s.heap.objs.size + 2) (s.heap.objs.size + 3) s.heap.objs.size (s.heap.objs.size + 1) a1 a2 0 xs ys .none → s.heap.StaysIn h' → Q (.ref (s.heap.objs.size + 4)) { s with heap := h' }) :
    wpAny (model prog w) A (call (.type "zip") [.ref a1, .ref a2]) Q E s := by
  refine callType_new F.called_zip (by decide) (F.typeCall_zip_2 _ _) (F.newCall_zip_2 _ _) (fun obj => F.args_object_init_3 obj _ _) F.entry_zip_new (meets_zip k1 k2 a1 a2 xs ys) ⟨hl1, hl2, ?_⟩
  have z1 : (zh1 k1 s.heap a1).objs.size = s.heap.objs.size + 1 := Heap.size_push ..
  have z2 : (zh2 k1 k2 s.heap a1 a2).objs.size = s.heap.objs.size + 2 := by rw [Heap.size_push, z1]
  have z3 : (zh3 k1 k2 s.heap a1 a2).objs.size = s.heap.objs.size + 3 := by rw [Heap.size_push, z2]
  have z4 : (zh4 k1 k2 s.heap a1 a2).objs.size = s.heap.objs.size + 4 := by rw [Heap.size_push, z3]
  have g5 : (zh5 k1 k2 s.heap a1 a2).get? (zh4 k1 k2 s.heap a1 a2).objs.size = some _ := Heap.get?_push_size _ rfl
  have g4 : (zh5 k1 k2 s.heap a1 a2).get? (zh3 k1 k2 s.heap a1 a2).objs.size = some _ := Heap.get?_push_of_some _ (Heap.get?_push_size _ rfl)
  have g3 : (zh5 k1 k2 s.heap a1 a2).get? (zh2 k1 k2 s.heap a1 a2).objs.size = some _ := Heap.get?_push_of_some _ (Heap.get?_push_of_some _ (Heap.get?_push_size _ rfl))
  have g2 : (zh5 k1 k2 s.heap a1 a2).get? (zh1 k1 s.heap a1).objs.size = some _ := Heap.get?_push_of_some _ (Heap.get?_push_of_some _ (Heap.get?_push_of_some _ (Heap.get?_push_size _ rfl)))
  have g1 : (zh5 k1 k2 s.heap a1 a2).get? s.heap.objs.size = some _ := Heap.get?_push_of_some _ (Heap.get?_push_of_some _ (Heap.get?_push_of_some _ (Heap.get?_push_of_some _ (Heap.get?_push_size _ rfl))))
  have q1 : SeqK k1 (zh5 k1 k2 s.heap a1 a2) a1 xs := ((((hl1.push _).push _).push _).push _).push _
  have q2 : SeqK k2 (zh5 k1 k2 s.heap a1 a2) a2 ys := ((((hl2.push _).push _).push _).push _).push _
  show _ ∧ _
  rw [z2, z3, z4] at g5
  rw [z1, z2] at g3
  rw [z3] at g4
  rw [z1] at g2
  rw [z4]
  exact ⟨⟨_, g5, rfl⟩, h _ ⟨g5, g3, ⟨_, _, g4⟩, seqIt_new q1 g1, seqIt_new q2 g2⟩ fun c o x => Heap.get?_push_of_some _ (Heap.get?_push_of_some _ (Heap.get?_push_of_some _ (Heap.get?_push_of_some _ (Heap.get?_push_of_some _ x))))⟩
end
section
variable {prog : Program} {w : World} {K : Frag} {c : Cx prog w K} {n : Nat} {env : Env} {ρ ρ' : List (Option PV)} {σ : Sto}
noncomputable def zipped (l l' : List PV) : List PV := (l.zip l').map fun p => .tup [p.1, p.2]
theorem zipped_length (l l' : List PV) : (zipped l l').length = min l.length l'.length := by unfold zipped; simp
theorem zipped_get {l l' : List PV} {i : Nat} {p : PV} (h : (zipped l l')[i]? = some p) : ∃ a b, l[i]? = some a ∧ l'[i]? = some b ∧ p = .tup [a, b] := by
  unfold zipped at h
  rw [List.getElem?_map, Option.map_eq_some_iff] at h
  obtain ⟨⟨a, b⟩, h, rfl⟩ := h
  rw [List.getElem?_zip_eq_some] at h
  exact ⟨a, b, h.1, h.2, rfl⟩
theorem iter_zip {A : Around} {elts : List PySem.Expr} {k : Nat} {pos : Pos} (hh : A.handled = none) {z TI TO i1 i2 a1 a2 : Addr} (D : ZipApart z TI TO i1 i2 a1 a2) {l l' : List PV} {vs vs' : List Value} (hl : vs.length = l.length) (hl' : vs'.length = l'.length) :
    Iter c A (.Tuple elts k pos) z [z, TI, TO, i1, i2, a1, a2] [z, TI, TO, i1, i2] (zipped l l') (l ++ l') (vs ++ vs') (fun i h => ZSt h z TI TO i1 i2 a1 a2 i vs.toArray vs'.toArray .none)
      (fun i h h' v => ∃ T x y, v = .ref T ∧ vs[i]? = some x ∧ vs'[i]? = some y ∧ h.get? T = none ∧ T ≠ z ∧ h'.IsTuple T #[x, y]) := by
  refine ⟨fun b hb => by simp at hb ⊢; rcases hb with rfl | rfl | rfl | rfl | rfl <;> simp, fun i h h' st hk => st.at hk, fun i h st b hb => ?_, fun i s Q hi st hQ => ?_, fun s Q st hQ => ?_, fun i s Q st q => wpAny_pyIter_zip st.z q, fun i h h' v p X σ S hX rb hk ho hp => ?_⟩
  · obtain ⟨u, v, hTO⟩ := st.to
    simp at hb
    rcases hb with rfl | rfl | rfl | rfl | rfl
    · exact ⟨_, st.z⟩
    · exact ⟨_, st.ti⟩
    · exact ⟨_, hTO⟩
    · exact st.s1.live
    · exact st.s2.live
  · rw [zipped_length] at hi
    have h1 : i < vs.length := by omega
    have h2 : i < vs'.length := by omega
    refine zip_item D st (x := vs[i]) (y := vs'[i]) (by simp [h1]) (by simp [h2]) fun h' st' hT hk => ⟨_, rfl, ?_⟩
    obtain ⟨hz, ti, ⟨u, v, to⟩, s1, s2⟩ := st'
    have hn : s.heap.get? s.heap.objs.size = none := size_none _
    have ne : ∀ {b o}, s.heap.get? b = some o → s.heap.objs.size ≠ b := fun e => Nat.ne_of_gt (Heap.lt_size e)
    have hTz : s.heap.objs.size ≠ z := ne st.z
    refine wpAny_letOwnedTupleGo_zip hz fun h'' hz' hs' => ?_
    refine hQ (.ref s.heap.objs.size) h'' s.toks ⟨_, _, _, rfl, List.getElem?_eq_getElem h1, List.getElem?_eq_getElem h2, hn, hTz, ⟨_, hs'.extBut _ _ hTz hT, rfl, _, rfl⟩⟩
      ⟨hz', hs'.extBut _ _ D.TIz ti, ⟨_, _, hs'.extBut _ _ D.TOz to⟩, s1.at (fun o e => hs'.extBut _ o D.i1z e) (fun o e => hs'.extBut _ o D.l1z e), s2.at (fun o e => hs'.extBut _ o D.i2z e) (fun o e => hs'.extBut _ o D.l2z e)⟩ fun b o hb e => ?_
    simp only [List.mem_cons, List.not_mem_nil, or_false, not_or] at hb
    exact hs'.extBut b o hb.1 (hk b o hb.1 hb.2.2.1 hb.2.2.2.1 hb.2.2.2.2 e)
  · rw [zipped_length] at st
    have hend : vs.toArray[min l.length l'.length]? = none ∨ vs'.toArray[min l.length l'.length]? = none := by
      rcases Nat.le_total l.length l'.length with h | h
      · exact .inl (by rw [Nat.min_eq_left h]; simp [hl])
      · exact .inr (by rw [Nat.min_eq_right h]; simp [hl'])
    refine zip_stop hh D st hend fun h' hk => hQ h' s.toks fun b o hb e => ?_
    simp only [List.mem_cons, List.not_mem_nil, or_false, not_or] at hb
    exact hk b o hb.1 hb.2.2.1 hb.2.2.2.1 hb.2.2.2.2 e
  · obtain ⟨T, x, y, rfl, hx, hy, hn, hTz, htup⟩ := ho
    obtain ⟨a, b, ha, hb, rfl⟩ := zipped_get hp
    have h1 : i < l.length := (List.getElem?_eq_some_iff.mp ha).1
    obtain ⟨u, hu, ru⟩ := rb.get (i := i) (p := a) (by rw [List.getElem?_append_left h1]; exact ha)
    obtain ⟨v, hv, rv⟩ := rb.get (i := l.length + i) (p := b) (by rw [List.getElem?_append_right (Nat.le_add_right _ _), Nat.add_sub_cancel_left]; exact hb)
    rw [List.getElem?_append_left (by omega), hx] at hu
    rw [List.getElem?_append_right (by omega), hl, Nat.add_sub_cancel_left, hy] at hv
    cases hu; cases hv
    simp only [Rep]
    have st := stay_wr (σ := σ) hX hk
    exact ⟨T, [x, y], rfl, good_of S hn, htup, Reps.cons (ru.stay st) (Reps.cons (rv.stay st) Reps.nil)⟩
theorem seq_inv {h : Heap} {bad : Addr → Prop} {p : PV} {l : List PV} {v : Value} (hp : p = .lst l ∨ p = .tup l) (r : Rep prog w h bad p v) : ∃ a vs k o, v = .ref a ∧ ¬ bad a ∧ h.get? a = some o ∧ SeqK k h a vs.toArray ∧ Reps prog w h bad l vs := by
  rcases hp with rfl | rfl
  · obtain ⟨a, vs, m, rfl, hb, ho, rl⟩ := r.lst_inv
    exact ⟨a, vs, true, _, rfl, hb, ho, isList_of ho, rl⟩
  · obtain ⟨a, vs, rfl, hb, ho, rl⟩ := r.tup_inv
    obtain ⟨o, ho1, _⟩ := id ho
    exact ⟨a, vs, false, o, rfl, hb, ho1, ho, rl⟩
theorem It.zip {elts : List PySem.Expr} {k : Nat} {tpos : Pos} {es : List PySem.Expr} {i : Nat} {fp pos : Pos} {Q : List PV → Sto → Prop} (hi : env.scope.names[i]? = some (("zip" : Str), .globalImplicit)) (hg : nsIn K mainGlobals "zip" = some none)
    (hes : Es c n env es ρ σ fun ps σ₁ => ∃ p p' l l', ps = [p, p'] ∧ (p = .lst l ∨ p = .tup l) ∧ (p' = .lst l' ∨ p' = .tup l') ∧ Q (zipped l l') σ₁)
    (ho : ArgsOk es env pos := by exact ⟨rfl, .inr ⟨_, _, rfl, rfl⟩⟩) : It c n env (.Tuple elts k tpos) (.Call (.Name "zip" fp) es [] pos) ρ σ Q := fun A X s rm S R => by
  refine bootT_then hi hg Boot.zip hes ho.1 ho.2 (by decide) (by decide) rm S R fun vs s₁ ps σ₁ rl S₁ R₁ x₁ q => ?_
  obtain ⟨p, p', l, l', rfl, hp, hp', q⟩ := q
  simp only [Reps] at rl
  obtain ⟨v, _, rfl, r1, v', _, rfl, r2, rfl⟩ := rl
  obtain ⟨a, us, k1, o1, rfl, hb, hoa, sk, ra⟩ := seq_inv hp r1
  obtain ⟨a', us', k2, o2, rfl, hb', hoa', sk', ra'⟩ := seq_inv hp' r2
  have lt := Heap.lt_size hoa
  have lt' := Heap.lt_size hoa'
  refine call_zip sk sk' fun h' st hk => wpAny_pyIter_zip st.z ?_
  have fresh : ∀ j, s₁.heap.get? (s₁.heap.objs.size + j) = none := fun j => by
    cases q' : s₁.heap.get? (s₁.heap.objs.size + j) with
    | none => rfl
    | some o => exact absurd (Heap.lt_size q') (Nat.not_lt.mpr (Nat.le_add_right _ _))
  refine it_start (tk := s₁.toks) (iter_zip rm.handled (zipApart_new lt lt') ra.length ra'.length) st S₁ R₁ x₁ R.ok.own (ra.append ra') hk (fun b hb => ?_) (fun b hb => ?_) q
  · simp only [List.mem_cons, List.not_mem_nil, or_false] at hb
    rcases hb with rfl | rfl | rfl | rfl | rfl
    · exact fresh 4
    · exact fresh 2
    · exact fresh 3
    · exact fresh 0
    · exact fresh 1
  · simp only [List.mem_cons, List.not_mem_nil, or_false] at hb ⊢
    rcases hb with rfl | rfl | rfl | rfl | rfl | rfl | rfl
    · simp
    · simp
    · simp
    · simp
    · simp
    · exact .inr ⟨hb, _, hoa⟩
    · exact .inr ⟨hb', _, hoa'⟩
end
section
variable {prog : Program} {w : World} {A : Around} {E : Value → Shared → Prop} {s : Shared}
theorem load_alive {M : Model} {a : Addr} {o : Obj} {Q : Option Obj → Shared → Prop} (ho : s.heap.get? a = some o) (h : Q (some o) s) : wpAny M A (loadIfAlive a) Q E s := fun Γ p hΓ => by
  unfold loadIfAlive
  rw [Sem.wp_loadIfAlive, ho]
  exact wpAny_pure (M := M) (A := A) (Q := Q) (E := E) h Γ p hΓ
noncomputable abbrev IsZip2 (h : Heap) (z TI TO T : Addr) (b : Bool) : Prop := h.get? z = some { cls := .type "zip", dict := none, data := .fields #[rawInt T, .bool b, .bool false, .ref TI, .ref TO], slots := #[] }
structure ZSt2 (h : Heap) (z TI TO i1 i2 a1 a2 : Addr) (k : Nat) (xs ys : Array Value) : Prop where
  z : ∃ T b, IsZip2 h z TI TO T b ∧ T ≠ z ∧ T ≠ TO ∧ T ≠ i1 ∧ T ≠ i2 ∧ ∃ o, h.get? T = some o
  ti : IsPair h TI (.ref i1) (.ref i2)
  to : ∃ o, h.get? TO = some o
  s1 : SeqIt h i1 a1 k xs
  s2 : SeqIt h i2 a2 k ys
theorem zip_item2 {z TI TO i1 i2 a1 a2 : Addr} {k : Nat} {xs ys : Array Value} {x y : Value} {Q : Option Value → Shared → Prop} (D : ZipApart z TI TO i1 i2 a1 a2) (st : ZSt2 s.heap z TI TO i1 i2 a1 a2 k xs ys) (hx : xs[k]? = some x) (hy : ys[k]? = some y)
    (hQ : ∀ h' T, ZSt2 h' z TI TO i1 i2 a1 a2 (k + 1) xs ys → s.heap.get? T = none → IsPair h' T x y → (∀ b o, b ≠ z → b ≠ i1 → b ≠ i2 → s.heap.get? b = some o → h'.get? b = some o) → Q (some (.ref T)) { s with heap := h' }) :
    wpAny (model prog w) A (pyNext (.ref z)) Q E s := by
  obtain ⟨⟨T, b, hz, t1, t2, t3, t4, oT, hoT⟩, hTI, ⟨oO, hoO⟩, s1, s2⟩ := st
  have hT : s.TypeIs (.ref z) "zip" := ⟨_, hz, rfl⟩
  unfold pyNext
  refine wpAny_bind (wpAny_attempt (wpAny_callSpecial?_slot (name := Str.ofString "__next__") hT F.slot_zip_next (wpAny_call_entry F.slot_zip_next hT F.entry_zip_next ?_ (F.args_zip_next_1 _))))
  show wpAny _ _ (field (.ref z) 2 >>= _) _ _ _
  refine wpAny_bind (wpAny_field hz rfl (x := .bool false) rfl ?_)
  show wpAny _ _ (field (.ref z) 3 >>= _) _ _ _
  refine wpAny_bind (wpAny_field hz rfl (x := .ref TI) rfl ?_)
  refine wpAny_bind (wpAny_seqItems hTI rfl ?_)
  show wpAny _ _ (Builtin.SmallTypes.ownedTupleIsFree (.ref z) >>= _) _ _ _
  refine wpAny_bind (wpAny_mono (Q := fun r s₁ => r = false ∧ ∃ h₁, s₁ = { s with heap := h₁ } ∧ IsZip2 h₁ z TI TO T true ∧ Heap.SameBut z s.heap h₁) ?_ (fun r s₁ hr => ?_) fun _ _ e => e)
  · unfold Builtin.SmallTypes.ownedTupleIsFree
    refine wpAny_bind (wpAny_field hz rfl (x := rawInt T) rfl ?_)
    show wpAny _ _ (loadIfAlive (Int.toNat (T : Int)) >>= _) _ _ _
    rw [Int.toNat_natCast]
    refine wpAny_bind (load_alive hoT ?_)
    simp only [Option.isNone_some, Bool.false_eq_true, if_false]
    refine wpAny_bind (wpAny_field hz rfl (x := .bool b) rfl ?_)
    cases b with
    | true =>
      simp only [bne_self_eq_false, Bool.false_eq_true, if_false]
      exact wpAny_pure ⟨rfl, s.heap, rfl, hz, Heap.SameBut.refl ..⟩
    | false =>
      have hb : ((Value.bool false) != (Value.bool true)) = true := by decide
      simp only [hb, if_true]
      refine wpAny_bind (wpAny_setField_rec hz (by simp) fun h₁ hz₁ e₁ => wpAny_pure ⟨rfl, h₁, rfl, hz₁, e₁⟩)
  · obtain ⟨rfl, h₁, rfl, hz₁, e₁⟩ := hr
    simp only [Bool.false_eq_true, if_false]
    have s1₁ := s1.at (fun o e => e₁.extBut _ o D.i1z e) (fun o e => e₁.extBut _ o D.l1z e)
    have s2₁ := s2.at (fun o e => e₁.extBut _ o D.i2z e) (fun o e => e₁.extBut _ o D.l2z e)
    simp only [← Array.forIn_toList, List.forIn_cons, List.forIn_nil]
    refine wpAny_bind (wpAny_bind (wpAny_bind (wpAny_holding ?_)))
    show wpAny _ _ (Builtin.SmallTypes.nextOf (.ref i1) >>= _) _ _ _
    refine wpAny_bind (s1₁.next D.l1i1 hx fun h₂ s1₂ e₂ => wpAny_pure (wpAny_pure ?_))
    have s2₂ := s2₁.at (fun o e => e₂.extBut _ o D.i12.symm e) (fun o e => e₂.extBut _ o D.l2i1 e)
    refine wpAny_bind (wpAny_bind (wpAny_holding ?_))
    show wpAny _ _ (Builtin.SmallTypes.nextOf (.ref i2) >>= _) _ _ _
    refine wpAny_bind (s2₂.next D.l2i2 hy fun h₃ s2₃ e₃ => wpAny_pure (wpAny_pure (wpAny_pure ?_)))
    have s1₃ := s1₂.at (fun o e => e₃.extBut _ o D.i12 e) (fun o e => e₃.extBut _ o D.l1i2 e)
    have up : ∀ b o, b ≠ z → b ≠ i1 → b ≠ i2 → s.heap.get? b = some o → h₃.get? b = some o := fun b o c1 c2 c3 e => e₃.extBut _ _ c3 (e₂.extBut _ _ c2 (e₁.extBut _ _ c1 e))
    have hz₃ : IsZip2 h₃ z TI TO T true := e₃.extBut _ _ D.i2z.symm (e₂.extBut _ _ D.i1z.symm hz₁)
    have hsz : h₃.objs.size = s.heap.objs.size := by rw [e₃.1, e₂.1, e₁.1]
    refine wpAny_bind (wpAny_newTuple (hsz := (by show (2 : Nat) ≤ 2 ^ 24; decide)) (wpAny_pure ⟨_, rfl, wpAny_pure ?_⟩))
    have hnew : s.heap.get? h₃.objs.size = none := by rw [hsz]; exact size_none _
    have pu : ∀ b o, h₃.get? b = some o → (h₃.push { cls := .type "tuple", data := .seq #[x, y] }).get? b = some o := fun b o e => Heap.get?_push_of_some _ e
    exact hQ _ h₃.objs.size ⟨⟨T, true, pu _ _ hz₃, t1, t2, t3, t4, oT, pu _ _ (up T oT t1 t3 t4 hoT)⟩, pu _ _ (up _ _ D.TIz D.TIi1 D.TIi2 hTI), ⟨oO, pu _ _ (up _ _ D.TOz D.TOi1 D.TOi2 hoO)⟩, s1₃.at (fun o e => pu _ o e) (fun o e => pu _ o e), s2₃.at (fun o e => pu _ o e) (fun o e => pu _ o e)⟩ hnew
      (Heap.get?_push_size _ rfl) fun b o c1 c2 c3 e => pu b o (up b o c1 c2 c3 e)
theorem zip_stop2 {z TI TO i1 i2 a1 a2 : Addr} {k : Nat} {xs ys : Array Value} {Q : Option Value → Shared → Prop} (hh : A.handled = none) (D : ZipApart z TI TO i1 i2 a1 a2) (st : ZSt2 s.heap z TI TO i1 i2 a1 a2 k xs ys) (hend : xs[k]? = none ∨ ys[k]? = none)
    (hQ : ∀ h', (∀ b o, b ≠ z → b ≠ i1 → b ≠ i2 → s.heap.get? b = some o → h'.get? b = some o) → Q none { s with heap := h' }) : wpAny (model prog w) A (pyNext (.ref z)) Q E s := by
  obtain ⟨⟨T, b, hz, t1, t2, t3, t4, oT, hoT⟩, hTI, ⟨oO, hoO⟩, s1, s2⟩ := st
  have hT : s.TypeIs (.ref z) "zip" := ⟨_, hz, rfl⟩
  unfold pyNext
  refine wpAny_bind (wpAny_attempt (wpAny_callSpecial?_slot (name := Str.ofString "__next__") hT F.slot_zip_next (wpAny_call_entry F.slot_zip_next hT F.entry_zip_next ?_ (F.args_zip_next_1 _))))
  have fin : ∀ h' e, (∀ b o, b ≠ z → b ≠ i1 → b ≠ i2 → s.heap.get? b = some o → h'.get? b = some o) → (∃ o, h'.get? e = some o ∧ o.cls = .type "StopIteration") →
      wpAny (model prog w) A (do let r ← isInstance (.ref e) (Value.type "StopIteration"); if r = true then pure none else throw (.ref e)) Q E { s with heap := h' } := fun h' e hk he => by
    obtain ⟨o, ho, hc⟩ := he
    exact wpAny_bind (wpAny_isInstance (T := "StopIteration") (b := true) ⟨o, ho, hc⟩ isSubtype_stop (wpAny_pure (hQ _ hk)))
  show wpAny _ _ (field (.ref z) 2 >>= _) _ _ _
  refine wpAny_bind (wpAny_field hz rfl (x := .bool false) rfl ?_)
  show wpAny _ _ (field (.ref z) 3 >>= _) _ _ _
  refine wpAny_bind (wpAny_field hz rfl (x := .ref TI) rfl ?_)
  refine wpAny_bind (wpAny_seqItems hTI rfl ?_)
  show wpAny _ _ (Builtin.SmallTypes.ownedTupleIsFree (.ref z) >>= _) _ _ _
  refine wpAny_bind (wpAny_mono (Q := fun r s₁ => r = false ∧ ∃ h₁, s₁ = { s with heap := h₁ } ∧ IsZip2 h₁ z TI TO T true ∧ Heap.SameBut z s.heap h₁) ?_ (fun r s₁ hr => ?_) fun _ _ e => e)
  · unfold Builtin.SmallTypes.ownedTupleIsFree
    refine wpAny_bind (wpAny_field hz rfl (x := rawInt T) rfl ?_)
    show wpAny _ _ (loadIfAlive (Int.toNat (T : Int)) >>= _) _ _ _
    rw [Int.toNat_natCast]
    refine wpAny_bind (load_alive hoT ?_)
    simp only [Option.isNone_some, Bool.false_eq_true, if_false]
    refine wpAny_bind (wpAny_field hz rfl (x := .bool b) rfl ?_)
    cases b with
    | true =>
      simp only [bne_self_eq_false, Bool.false_eq_true, if_false]
      exact wpAny_pure ⟨rfl, s.heap, rfl, hz, Heap.SameBut.refl ..⟩
    | false =>
      have hb : ((Value.bool false) != (Value.bool true)) = true := by decide
      simp only [hb, if_true]
      refine wpAny_bind (wpAny_setField_rec hz (by simp) fun h₁ hz₁ e₁ => wpAny_pure ⟨rfl, h₁, rfl, hz₁, e₁⟩)
  · obtain ⟨rfl, h₁, rfl, hz₁, e₁⟩ := hr
    simp only [Bool.false_eq_true, if_false]
    have s1₁ := s1.at (fun o e => e₁.extBut _ o D.i1z e) (fun o e => e₁.extBut _ o D.l1z e)
    have s2₁ := s2.at (fun o e => e₁.extBut _ o D.i2z e) (fun o e => e₁.extBut _ o D.l2z e)
    simp only [← Array.forIn_toList, List.forIn_cons, List.forIn_nil]
    refine wpAny_bind (wpAny_bind (wpAny_bind (wpAny_holding ?_)))
    show wpAny _ _ (Builtin.SmallTypes.nextOf (.ref i1) >>= _) _ _ _
    cases hx : xs[k]? with
    | none => exact wpAny_bind (s1₁.stop hh hx fun h₂ e e₂ he => fin h₂ e (fun b o c1 c2 c3 x => e₂ _ _ c2 (e₁.extBut _ _ c1 x)) he)
    | some x =>
      have hy : ys[k]? = none := hend.elim (fun h => by rw [hx] at h; cases h) id
      refine wpAny_bind (s1₁.next D.l1i1 hx fun h₂ s1₂ e₂ => wpAny_pure (wpAny_pure ?_))
      have s2₂ := s2₁.at (fun o e => e₂.extBut _ o D.i12.symm e) (fun o e => e₂.extBut _ o D.l2i1 e)
      refine wpAny_bind (wpAny_bind (wpAny_holding ?_))
      show wpAny _ _ (Builtin.SmallTypes.nextOf (.ref i2) >>= _) _ _ _
      exact wpAny_bind (s2₂.stop hh hy fun h₃ e e₃ he => fin h₃ e (fun b o c1 c2 c3 x => e₃ _ _ c3 (e₂.extBut _ _ c2 (e₁.extBut _ _ c1 x))) he)
noncomputable def ZRun (h : Heap) (z TI TO i1 i2 a1 a2 : Addr) (k : Nat) (xs ys : Array Value) : Prop := ZSt h z TI TO i1 i2 a1 a2 k xs ys .none ∨ ZSt2 h z TI TO i1 i2 a1 a2 k xs ys
theorem ZRun.upd {h h' : Heap} {z TI TO i1 i2 a1 a2 S : Addr} {k : Nat} {xs ys : Array Value} (x : ZRun h z TI TO i1 i2 a1 a2 k xs ys) (hk : ∀ b, b ≠ S → ∀ o, h.get? b = some o → h'.get? b = some o) (oS : ∃ o, h'.get? S = some o) (n : S ≠ z ∧ S ≠ TI ∧ S ≠ TO ∧ S ≠ i1 ∧ S ≠ i2 ∧ S ≠ a1 ∧ S ≠ a2) : ZRun h' z TI TO i1 i2 a1 a2 k xs ys := by
  obtain ⟨n1, n2, n3, n4, n5, n6, n7⟩ := n
  rcases x with x | ⟨⟨T, b, h1, t1, t2, t3, t4, o, ho⟩, h2, ⟨o', ho'⟩, h3, h4⟩
  · refine .inl (x.at fun b hb o e => hk b ?_ o e)
    simp only [List.mem_cons, List.not_mem_nil, or_false] at hb
    rcases hb with rfl | rfl | rfl | rfl | rfl | rfl | rfl <;> first | exact n1.symm | exact n2.symm | exact n3.symm | exact n4.symm | exact n5.symm | exact n6.symm | exact n7.symm
  · refine .inr ⟨⟨T, b, hk _ n1.symm _ h1, t1, t2, t3, t4, ?_⟩, hk _ n2.symm _ h2, ⟨o', hk _ n3.symm _ ho'⟩, h3.at (fun o e => hk _ n4.symm o e) (fun o e => hk _ n6.symm o e), h4.at (fun o e => hk _ n5.symm o e) (fun o e => hk _ n7.symm o e)⟩
    by_cases hT : T = S
    · subst hT; exact oS
    · exact ⟨o, hk _ hT _ ho⟩
theorem ZRun.next {z TI TO i1 i2 a1 a2 : Addr} {k : Nat} {xs ys : Array Value} {x y : Value} {Q : Option Value → Shared → Prop} (D : ZipApart z TI TO i1 i2 a1 a2) (st : ZRun s.heap z TI TO i1 i2 a1 a2 k xs ys) (hx : xs[k]? = some x) (hy : ys[k]? = some y)
    (hQ : ∀ h' T, ZRun h' z TI TO i1 i2 a1 a2 (k + 1) xs ys → s.heap.get? T = none → IsPair h' T x y → (∀ b o, b ≠ z → b ≠ TO → b ≠ i1 → b ≠ i2 → s.heap.get? b = some o → h'.get? b = some o) → Q (some (.ref T)) { s with heap := h' }) :
    wpAny (model prog w) A (pyNext (.ref z)) Q E s := by
  rcases st with st | st
  · refine zip_item D st hx hy fun h' st' hT hk => hQ h' s.heap.objs.size (.inr ?_) (size_none _) hT hk
    have ne : ∀ {b o}, s.heap.get? b = some o → s.heap.objs.size ≠ b := fun e => Nat.ne_of_gt (Heap.lt_size e)
    obtain ⟨u, v, to⟩ := st.to
    obtain ⟨o1, e1⟩ := st.s1.live
    obtain ⟨o2, e2⟩ := st.s2.live
    exact ⟨⟨_, false, st'.z, ne st.z, ne to, ne e1, ne e2, _, hT⟩, st'.ti, (let ⟨u, v, e⟩ := st'.to; ⟨_, e⟩), st'.s1, st'.s2⟩
  · exact zip_item2 D st hx hy fun h' T st' hn hT hk => hQ h' T (.inr st') hn hT fun b o c1 _ c3 c4 e => hk b o c1 c3 c4 e
theorem ZRun.stop {z TI TO i1 i2 a1 a2 : Addr} {k : Nat} {xs ys : Array Value} {Q : Option Value → Shared → Prop} (hh : A.handled = none) (D : ZipApart z TI TO i1 i2 a1 a2) (st : ZRun s.heap z TI TO i1 i2 a1 a2 k xs ys) (hend : xs[k]? = none ∨ ys[k]? = none)
    (hQ : ∀ h', (∀ b o, b ≠ z → b ≠ TO → b ≠ i1 → b ≠ i2 → s.heap.get? b = some o → h'.get? b = some o) → Q none { s with heap := h' }) : wpAny (model prog w) A (pyNext (.ref z)) Q E s := by
  rcases st with st | st
  · exact zip_stop hh D st hend hQ
  · exact zip_stop2 hh D st hend fun h' hk => hQ h' fun b o c1 _ c3 c4 e => hk b o c1 c3 c4 e
end
theorem zip_no_len : typeLookup (.type "zip") "__len__" = pure none := by rw [typeLookup_type, builtinLookup_eq_fast]; kernel_rfl
theorem zip_no_hint : typeLookup (.type "zip") "__length_hint__" = pure none := by rw [typeLookup_type, builtinLookup_eq_fast]; kernel_rfl
section
variable {prog : Program} {w : World} {A : Around} {E : Value → Shared → Prop} {s : Shared}
noncomputable def PairsAt (h₀ h : Heap) (acc : List Value) (vs us : List Value) (W : List Addr) : Prop :=
  ∀ (j : Nat) v, acc[j]? = some v → ∃ T x y, v = .ref T ∧ vs[j]? = some x ∧ us[j]? = some y ∧ IsPair h T x y ∧ h₀.get? T = none ∧ T ∉ W
theorem zip_extend {h₀ : Heap} {z TI TO i1 i2 a1 a2 S : Addr} {vs us : List Value} {res : Value} {R : Result → Shared → Prop} (hh : A.handled = none) (D : ZipApart z TI TO i1 i2 a1 a2) (n : S ≠ z ∧ S ≠ TI ∧ S ≠ TO ∧ S ≠ i1 ∧ S ≠ i2 ∧ S ≠ a1 ∧ S ≠ a2) (hsz : min vs.length us.length ≤ sizeLine)
    (hW : ∀ b ∈ [S, z, TO, i1, i2], h₀.get? b = none) :
    ∀ (k i : Nat) (s : Shared) (acc : List Value) (m : Nat), min vs.length us.length - i = k → i ≤ min vs.length us.length → acc.length = i → ZRun s.heap z TI TO i1 i2 a1 a2 i vs.toArray us.toArray → s.heap.get? S = some (listOf acc.toArray m) →
      PairsAt h₀ s.heap acc vs us [S, z, TO, i1, i2] → (∀ b o, h₀.get? b = some o → s.heap.get? b = some o) →
      (∀ h' acc' m', h'.get? S = some (listOf acc'.toArray m') → acc'.length = min vs.length us.length → PairsAt h₀ h' acc' vs us [S, z, TO, i1, i2] → (∀ b o, h₀.get? b = some o → h'.get? b = some o) → R (.ok (.ret res)) { s with heap := h' }) →
      codeAny (model prog w) A (.builtin "list.extend.loop" ⟨[.ref S, .ref z, res], []⟩) R s := by
  obtain ⟨n1, n2, n3, n4, n5, n6, n7⟩ := id n
  have up0 : ∀ {h h' : Heap}, (∀ b o, h₀.get? b = some o → h.get? b = some o) → (∀ b o, b ≠ z → b ≠ TO → b ≠ i1 → b ≠ i2 → h.get? b = some o → h'.get? b = some o) → ∀ b o, h₀.get? b = some o → h'.get? b = some o := fun {h h'} k0 hk b o e => by
    have nb : ∀ x ∈ [S, z, TO, i1, i2], b ≠ x := fun x hx y => by have := hW x hx; rw [← y, e] at this; cases this
    exact hk b o (nb z (by simp)) (nb TO (by simp)) (nb i1 (by simp)) (nb i2 (by simp)) (k0 b o e)
  have upP : ∀ {h h' : Heap} {acc : List Value}, PairsAt h₀ h acc vs us [S, z, TO, i1, i2] → (∀ b o, b ≠ S → b ≠ z → b ≠ TO → b ≠ i1 → b ≠ i2 → h.get? b = some o → h'.get? b = some o) → PairsAt h₀ h' acc vs us [S, z, TO, i1, i2] := fun {h h' acc} hp hk j v e => by
    obtain ⟨T, x, y, rfl, h1, h2, h3, h4, h5⟩ := hp j v e
    refine ⟨T, x, y, rfl, h1, h2, ?_, h4, h5⟩
    simp only [List.mem_cons, List.not_mem_nil, or_false, not_or] at h5
    exact hk T _ h5.1 h5.2.1 h5.2.2.1 h5.2.2.2.1 h5.2.2.2.2 h3
  intro k
  induction k with
  | zero =>
    intro i s acc m hk hi hlen st hS hP h0 hR
    have hin : i = min vs.length us.length := Nat.le_antisymm hi (Nat.le_of_sub_eq_zero hk)
    refine codeAny_builtin F.entry_extend_loop ?_
    rw [Around.under_plainId F.plain_extend_loop _]
    show wpAny _ A.in1 (pyNext (.ref z) >>= _) _ _ s
    have hend : vs.toArray[i]? = none ∨ us.toArray[i]? = none := by
      rcases Nat.le_total vs.length us.length with h | h
      · exact .inl (by rw [hin, Nat.min_eq_left h]; simp)
      · exact .inr (by rw [hin, Nat.min_eq_right h]; simp)
    refine wpAny_bind (st.stop hh D hend fun h' hk' => ?_)
    exact wpAny_pure (hR h' acc m (hk' S _ n1 n3 n4 n5 hS) (hlen.trans hin) (upP hP fun b o _ c1 c2 c3 c4 e => hk' b o c1 c2 c3 c4 e) (up0 h0 hk'))
  | succ k ih =>
    intro i s acc m hk hi hlen st hS hP h0 hR
    have hlt : i < min vs.length us.length := Nat.sub_pos_iff_lt.mp (hk ▸ Nat.succ_pos k)
    have h1 : i < vs.length := Nat.lt_of_lt_of_le hlt (Nat.min_le_left ..)
    have h2 : i < us.length := Nat.lt_of_lt_of_le hlt (Nat.min_le_right ..)
    refine codeAny_builtin F.entry_extend_loop ?_
    rw [Around.under_plainId F.plain_extend_loop _]
    show wpAny _ A.in1 (pyNext (.ref z) >>= _) _ _ s
    refine wpAny_bind (st.next D (x := vs[i]) (y := us[i]) (by simp [h1]) (by simp [h2]) fun h' T st' hn hT hk' => ?_)
    have hS' := hk' S _ n1 n3 n4 n5 hS
    have live : ∀ b ∈ [S, z, TO, i1, i2], ∃ o, s.heap.get? b = some o := fun b hb => by
      simp only [List.mem_cons, List.not_mem_nil, or_false] at hb
      rcases hb with rfl | rfl | rfl | rfl | rfl
      · exact ⟨_, hS⟩
      · rcases st with st | ⟨⟨_, _, e, _⟩, _⟩
        · exact ⟨_, st.z⟩
        · exact ⟨_, e⟩
      · rcases st with st | st
        · obtain ⟨_, _, e⟩ := st.to; exact ⟨_, e⟩
        · exact st.to
      · rcases st with st | st
        · exact st.s1.live
        · exact st.s1.live
      · rcases st with st | st
        · exact st.s2.live
        · exact st.s2.live
    have hTW : T ∉ [S, z, TO, i1, i2] := fun hm => by obtain ⟨o, ho⟩ := live T hm; rw [hn] at ho; cases ho
    have hT0 : h₀.get? T = none := by
      cases q : h₀.get? T with
      | none => rfl
      | some o => rw [h0 T o q] at hn; cases hn
    show wpAny _ A.in1 (updateSeq S (·.push (.ref T)) >>= _) _ _ _
    refine wpAny_bind ?_
    have oth : ∀ b o, b ≠ S → h'.get? b = some o → (h'.update S (Obj.mapSeq (·.push (.ref T)))).get? b = some o := fun b o c e => (Heap.get?_update_other _ _ (Ne.symm c)).trans e
    have hS₂ := Heap.get?_update_self (Obj.mapSeq (·.push (.ref T))) hS' rfl
    refine wpAny_updateSeq hS' rfl (wpAny_pure ⟨plainId_quiet F.plain_extend_loop _, ih (i + 1) _ (acc ++ [.ref T]) _ (by rw [Nat.sub_add_eq, hk]; rfl) hlt (by simp [hlen]) (st'.upd (fun b c o e => oth b o c e) ⟨_, hS₂⟩ n) (by rw [hS₂]; simp [Obj.mapSeq, PySem.W.listOf]; rfl) ?_ (fun b o e => ?_) fun h'' acc' m' a b c d => hR h'' acc' m' a b c d⟩) (by simp; (first | lia | omega)) (by simp; (first | lia | omega))
    · intro j v e
      by_cases hj : j < acc.length
      · rw [List.getElem?_append_left hj] at e
        exact upP hP (fun b o c0 c1 c2 c3 c4 e => oth b o c0 (hk' b o c1 c2 c3 c4 e)) j v e
      · rw [List.getElem?_append_right (by (first | lia | omega))] at e
        have hj' : j = i := by
          have := (List.getElem?_eq_some_iff.mp e).1
          simp at this; (first | lia | omega)
        subst hj'
        rw [hlen] at e
        simp at e
        subst e
        exact ⟨T, _, _, rfl, List.getElem?_eq_getElem h1, List.getElem?_eq_getElem h2, oth T _ (fun y => hTW (by simp [y])) hT, hT0, hTW⟩
    · have hbS : b ≠ S := fun y => by have := hW S (by simp); rw [← y, e] at this; cases this
      exact oth b o hbS (up0 h0 hk' b o e)
end
section
variable {prog : Program} {w : World} {A : Around} {E : Value → Shared → Prop} {s : Shared}
theorem call_list_zip {h₀ : Heap} {z TI TO i1 i2 a1 a2 : Addr} {vs us : List Value} {Q : Value → Shared → Prop} (hh : A.handled = none) (D : ZipApart z TI TO i1 i2 a1 a2) (hsz : min vs.length us.length ≤ sizeLine)
    (st : ZSt s.heap z TI TO i1 i2 a1 a2 0 vs.toArray us.toArray .none) (la1 : ∃ o, s.heap.get? a1 = some o) (la2 : ∃ o, s.heap.get? a2 = some o) (hW : ∀ b ∈ [s.heap.objs.size, z, TO, i1, i2], h₀.get? b = none) (h0 : ∀ b o, h₀.get? b = some o → s.heap.get? b = some o)
    (hQ : ∀ h' acc m, h'.get? s.heap.objs.size = some (PySem.W.listOf acc.toArray m) → acc.length = min vs.length us.length → PairsAt h₀ h' acc vs us [s.heap.objs.size, z, TO, i1, i2] → (∀ b o, h₀.get? b = some o → h'.get? b = some o) → Q (.ref s.heap.objs.size) { s with heap := h' }) :
    wpAny (model prog w) A (call (.type "list") [.ref z]) Q E s := by
  have ne : ∀ {b o}, s.heap.get? b = some o → s.heap.objs.size ≠ b := fun e => Nat.ne_of_gt (Heap.lt_size e)
  obtain ⟨u, v, hTO⟩ := id st.to
  obtain ⟨o1, e1⟩ := id st.s1.live
  obtain ⟨o2, e2⟩ := id st.s2.live
  obtain ⟨p1, q1⟩ := la1
  obtain ⟨p2, q2⟩ := la2
  have n : s.heap.objs.size ≠ z ∧ s.heap.objs.size ≠ TI ∧ s.heap.objs.size ≠ TO ∧ s.heap.objs.size ≠ i1 ∧ s.heap.objs.size ≠ i2 ∧ s.heap.objs.size ≠ a1 ∧ s.heap.objs.size ≠ a2 := ⟨ne st.z, ne st.ti, ne hTO, ne e1, ne e2, ne q1, ne q2⟩
  refine callType_codes (Q₁ := fun obj s₁ => obj = .ref s.heap.objs.size ∧ s₁ = { s with heap := s.heap.push { cls := .type "list", data := .seq #[] } }) F.called_list (F.typeCall_list_1 _) F.entry_list_init (code_list_new _ ⟨rfl, rfl⟩) fun obj s₁ h₁ => ?_
  obtain ⟨rfl, rfl⟩ := h₁
  generalize hSz : s.heap.objs.size = S at n hW hQ ne ⊢
  have hS : (s.heap.push { cls := .type "list", data := .seq #[] }).get? S = some { cls := .type "list", data := .seq #[] } := by rw [← hSz]; exact Heap.get?_push_size _ rfl
  have k1 : ∀ b o, s.heap.get? b = some o → (s.heap.push { cls := .type "list", data := .seq #[] }).get? b = some o := fun b o e => Heap.get?_push_of_some _ e
  refine ⟨⟨_, hS, rfl⟩, F.args_list_init_2 _ _, ?_⟩
  generalize s.heap.push { cls := .type "list", data := .seq #[] } = h₁ at hS k1 ⊢
  show wpAny _ A.in1.in1 (do let old ← Builtin.List.listItems (.ref S); Builtin.List.listUpdate (.ref S) (fun _ => #[]); letGo old.toList.reverse; Builtin.List.listExtendWith (.ref S) (.ref z) .none) _ _ _
  refine wpAny_bind ?_
  unfold Builtin.List.listItems
  refine wpAny_bind (wpAny_seqItems hS rfl (wpAny_pure ?_))
  show wpAny _ A.in1.in1 (updateSeq S (fun _ => #[]) >>= fun _ => letGo (#[] : Array Value).toList.reverse >>= fun _ => Builtin.List.listExtendWith (.ref S) (.ref z) .none) _ _ _
  refine wpAny_bind (wpAny_updateSeq hS rfl ?_)
  have hS₂ := Heap.get?_update_self (Obj.mapSeq (fun _ => (#[] : Array Value))) hS rfl
  have k2 : ∀ b o, b ≠ S → s.heap.get? b = some o → (h₁.update S (Obj.mapSeq (fun _ => (#[] : Array Value)))).get? b = some o := fun b o c e => (Heap.get?_update_other _ _ (Ne.symm c)).trans (k1 b o e)
  generalize h₁.update S (Obj.mapSeq (fun _ => (#[] : Array Value))) = h₂ at hS₂ k2 ⊢
  refine wpAny_bind (wpAny_letGo ?_)
  have hz₂ := k2 _ _ (Ne.symm n.1) st.z
  have hT : Shared.TypeIs { s with heap := h₂ } (.ref z) "zip" := ⟨_, hz₂, rfl⟩
  unfold Builtin.List.listExtendWith
  refine wpAny_bind (wpAny_typeOf hT ?_)
  have b1 : Builtin.List.listSameRef (.ref S) (.ref z) = false := by simp [Builtin.List.listSameRef, n.1]
  have b2 : (Value.type "zip" == Value.type "list") = false := by decide
  have b3 : (Value.type "zip" == Value.type "tuple") = false := by decide
  simp only [b1, b2, b3, Bool.or_false, Bool.false_eq_true, if_false]
  refine wpAny_bind (wpAny_pyIter_zip hz₂ ?_)
  refine wpAny_bind (wpAny_holding ?_)
  unfold Builtin.List.listLengthHint
  refine wpAny_bind (wpAny_specialOf hT zip_no_len ?_)
  show wpAny _ A.in1.in1 (specialOf (Value.ref z) (Str.ofString "__length_hint__") >>= _) _ _ _
  refine wpAny_bind (wpAny_specialOf hT zip_no_hint ?_)
  refine wpAny_pure ?_
  show wpAny _ A.in1.in1 (rule "list.extend.makes-room" >>= fun _ => Builtin.List.listTouch (.ref S) >>= fun _ => again (.builtin "list.extend.loop" ⟨[.ref S, .ref z, .none], []⟩)) _ _ _
  refine wpAny_bind (wpAny_rule (wpAny_bind ?_))
  show wpAny _ A.in1.in1 (updateSeq S (·.push .none) >>= fun _ => updateSeq S (·.pop)) _ _ _
  refine wpAny_bind (wpAny_updateSeq hS₂ rfl ?_)
  have hS₃ := Heap.get?_update_self (Obj.mapSeq (·.push Value.none)) hS₂ rfl
  refine wpAny_updateSeq (hz := by seq_fits) hS₃ rfl ?_
  have hS₄ := Heap.get?_update_self (Obj.mapSeq (·.pop)) hS₃ rfl
  have k4 : ∀ b o, b ≠ S → s.heap.get? b = some o → ((h₂.update S (Obj.mapSeq (·.push Value.none))).update S (Obj.mapSeq (·.pop))).get? b = some o := fun b o c e => (Heap.get?_update_other _ _ (Ne.symm c)).trans ((Heap.get?_update_other _ _ (Ne.symm c)).trans (k2 b o c e))
  generalize (h₂.update S (Obj.mapSeq (·.push Value.none))).update S (Obj.mapSeq (·.pop)) = h₄ at hS₄ k4 ⊢
  obtain ⟨m4, hm4⟩ : ∃ m, h₄.get? S = some (PySem.W.listOf ([] : List Value).toArray m) := ⟨_, hS₄⟩
  have st4 : ZSt h₄ z TI TO i1 i2 a1 a2 0 vs.toArray us.toArray .none := st.at fun b hb o e => k4 b o (by
    obtain ⟨n1, n2, n3, n4, n5, n6, n7⟩ := n
    simp only [List.mem_cons, List.not_mem_nil, or_false] at hb
    rcases hb with rfl | rfl | rfl | rfl | rfl | rfl | rfl <;> first | exact n1.symm | exact n2.symm | exact n3.symm | exact n4.symm | exact n5.symm | exact n6.symm | exact n7.symm) e
  refine wpAny_pure ⟨plainId_quiet F.plain_extend_loop _, zip_extend (A := A.in1) hh D n hsz hW _ 0 { s with heap := h₄ } [] m4 rfl (Nat.zero_le _) rfl (.inl st4) hm4 (fun j v e => by simp at e) (fun b o e => k4 b o (fun y => by have := hW S (by simp); rw [← y, e] at this; cases this) (h0 b o e)) fun h' acc m a1 a2 a3 a4 => ?_⟩
  exact ⟨rfl, hQ h' acc m a1 a2 a3 a4⟩
end
section
variable {prog : Program} {w : World} {K : Frag} {c : Cx prog w K} {n : Nat} {env : Env} {ρ ρ' : List (Option PV)} {σ : Sto}
theorem CPost.grown {X : Addr → Prop} {s : Shared} {Q : PV → Sto → Prop} {v : Value} {pv : PV} {tk : Nat} {h' : Heap} (S : Sat prog w c.G X s.heap σ) (hk : s.heap.StaysIn h') (h : Rep prog w h' (Bad X σ) pv v) (q : Q pv σ) : CPost c X s σ Q v { s with heap := h', toks := tk } :=
  ⟨pv, σ, h, S.ext hk, step_ext hk, q⟩
theorem CPost.now {X : Addr → Prop} {s : Shared} {Q : PV → Sto → Prop} {v : Value} {pv : PV} {tk : Nat} (S : Sat prog w c.G X s.heap σ) (h : Rep prog w s.heap (Bad X σ) pv v) (q : Q pv σ) : CPost c X s σ Q v { s with toks := tk } :=
  CPost.grown (h' := s.heap) S (fun _ _ e => e) h q
theorem one_arg {h : Heap} {bad : Addr → Prop} {p : PV} {vs : List Value} (r : Reps prog w h bad [p] vs) : ∃ v, vs = [v] ∧ Rep prog w h bad p v := by
  simp only [Reps] at r
  obtain ⟨v, _, rfl, a, rfl⟩ := r
  exact ⟨v, rfl, a⟩
theorem two_args {h : Heap} {bad : Addr → Prop} {p q : PV} {vs : List Value} (r : Reps prog w h bad [p, q] vs) : ∃ v u, vs = [v, u] ∧ Rep prog w h bad p v ∧ Rep prog w h bad q u := by
  simp only [Reps] at r
  obtain ⟨v, _, rfl, a, u, _, rfl, b, rfl⟩ := r
  exact ⟨v, u, rfl, a, b⟩
theorem Dc.lenL {l : List PV} (hz : l.length ≤ 1000000) : Dc c n (.builtin "len") [.lst l] σ (.int l.length) := fun A X s vs rm S rv => by
  obtain ⟨v, rfl, r⟩ := one_arg rv
  obtain ⟨a, us, k, rfl, hb, ho, rl⟩ := r.lst_inv
  have e : ((us.toArray.size : Nat) : Int) = l.length := by rw [← rl.length]; simp
  refine Calls.call_len_list (isList_of ho) (by rw [e]; (first | lia | omega)) ?_
  rw [e]
  exact CPost.now S Rep.int ⟨rfl, rfl⟩
theorem Dc.lenT {l : List PV} (hz : l.length ≤ 1000000) : Dc c n (.builtin "len") [.tup l] σ (.int l.length) := fun A X s vs rm S rv => by
  obtain ⟨v, rfl, r⟩ := one_arg rv
  obtain ⟨a, us, rfl, hb, ho, rl⟩ := r.tup_inv
  have e : ((us.toArray.size : Nat) : Int) = l.length := by rw [← rl.length]; simp
  refine PyProof.Rows.len_tuple ho (by rw [e]; (first | lia | omega)) ?_
  rw [e]
  exact CPost.now S Rep.int ⟨rfl, rfl⟩
theorem Dc.lenA {l : List PV} {a : Addr} (hs : σ a = some (.list l)) (hz : l.length ≤ 1000000) : Dc c n (.builtin "len") [.at a] σ (.int l.length) := fun A X s vs rm S rv => by
  obtain ⟨v, rfl, r⟩ := one_arg rv
  have := r.at_inv
  subst this
  obtain ⟨us, k, ho, rl⟩ := (S.gs a _ hs).2
  have e : ((us.toArray.size : Nat) : Int) = l.length := by rw [← rl.length]; simp
  refine Calls.call_len_list (isList_of ho) (by rw [e]; (first | lia | omega)) ?_
  rw [e]
  exact CPost.now S Rep.int ⟨rfl, rfl⟩
theorem Dc.intI {i : Int} : Dc c n (.type "int") [.int i] σ (.int i) := fun A X s vs rm S rv => by
  obtain ⟨v, rfl, r⟩ := one_arg rv
  obtain ⟨t, rfl⟩ := r.int_inv
  exact call_int_int (CPost.now (tk := s.toks) S Rep.int ⟨rfl, rfl⟩)
theorem Dc.intB {b : Bool} : Dc c n (.type "int") [.bool b] σ (.int (if b = true then 1 else 0)) := fun A X s vs rm S rv => by
  obtain ⟨v, rfl, r⟩ := one_arg rv
  have := r.bool_inv
  subst this
  exact call_int_bool (CPost.now S Rep.int ⟨rfl, rfl⟩)
theorem Dc.max2 {a b : Int} : Dc c n (.builtin "max") [.int a, .int b] σ (.int (max a b)) := fun A X s vs rm S rv => by
  obtain ⟨v, u, rfl, r1, r2⟩ := two_args rv
  obtain ⟨t, rfl⟩ := r1.int_inv
  obtain ⟨t', rfl⟩ := r2.int_inv
  refine max_two_ints rm.handled fun h' tk hk => ?_
  refine CPost.grown S hk ?_ ⟨rfl, rfl⟩
  by_cases hc : b > a
  · rw [if_pos hc, Int.max_eq_right (by (first | lia | omega))]; exact Rep.int
  · rw [if_neg hc, Int.max_eq_left (by (first | lia | omega))]; exact Rep.int
theorem Dc.min2 {a b : Int} : Dc c n (.builtin "min") [.int a, .int b] σ (.int (min a b)) := fun A X s vs rm S rv => by
  obtain ⟨v, u, rfl, r1, r2⟩ := two_args rv
  obtain ⟨t, rfl⟩ := r1.int_inv
  obtain ⟨t', rfl⟩ := r2.int_inv
  refine min_two_ints rm.handled fun h' tk hk => ?_
  refine CPost.grown S hk ?_ ⟨rfl, rfl⟩
  by_cases hc : b < a
  · rw [if_pos hc, Int.min_eq_right (by (first | lia | omega))]; exact Rep.int
  · rw [if_neg hc, Int.min_eq_left (by (first | lia | omega))]; exact Rep.int
noncomputable def intsP (l : List Int) : List PV := l.map .int
theorem reps_ints {h : Heap} {bad : Addr → Prop} : ∀ {l : List Int} {vs : List Value}, Reps prog w h bad (intsP l) vs → ∃ ts : List (Int × Tok), vs = ts.map (fun p => .int p.1 p.2) ∧ ts.map (·.1) = l
  | [], _, r => by
    simp only [intsP, List.map_nil, Reps] at r
    exact ⟨[], by simpa using r, rfl⟩
  | i :: l, _, r => by
    simp only [intsP, List.map_cons, Reps] at r
    obtain ⟨v, us, rfl, a, b⟩ := r
    obtain ⟨t, rfl⟩ := a.int_inv
    obtain ⟨ts, rfl, e⟩ := reps_ints (l := l) b
    exact ⟨(i, t) :: ts, rfl, by simp [e]⟩
noncomputable def topOf : List Int → Int
  | [] => 0
  | [a] => a
  | a :: b :: r => max a (topOf (b :: r))
noncomputable def lowOf : List Int → Int
  | [] => 0
  | [a] => a
  | a :: b :: r => min a (lowOf (b :: r))
theorem topOf_spec : ∀ {l : List Int} {m : Int}, m ∈ l → (∀ x ∈ l, x ≤ m) → topOf l = m
  | [], m, h, _ => by cases h
  | [a], m, h, h2 => by simp only [List.mem_singleton] at h; simp only [topOf, h]
  | a :: b :: r, m, h, h2 => by
    simp only [topOf]
    rcases List.mem_cons.mp h with rfl | h'
    · have : topOf (b :: r) ≤ m := by
        have key : ∀ (l : List Int), (∀ x ∈ l, x ≤ m) → l ≠ [] → topOf l ≤ m := by
          intro l
          induction l with
          | nil => intro _ h; exact absurd rfl h
          | cons x l ih =>
            intro hx _
            cases l with
            | nil => simpa [topOf] using hx x (by simp)
            | cons y l => simp only [topOf]; exact Int.max_le.mpr ⟨hx x (by simp), ih (fun z hz => hx z (List.mem_cons_of_mem _ hz)) (by simp)⟩
        exact key _ (fun x hx => h2 x (List.mem_cons_of_mem _ hx)) (by simp)
      exact Int.max_eq_left this
    · rw [topOf_spec h' fun x hx => h2 x (List.mem_cons_of_mem _ hx)]
      exact Int.max_eq_right (h2 a (by simp))
theorem lowOf_spec : ∀ {l : List Int} {m : Int}, m ∈ l → (∀ x ∈ l, m ≤ x) → lowOf l = m
  | [], m, h, _ => by cases h
  | [a], m, h, h2 => by simp only [List.mem_singleton] at h; simp only [lowOf, h]
  | a :: b :: r, m, h, h2 => by
    simp only [lowOf]
    rcases List.mem_cons.mp h with rfl | h'
    · have : m ≤ lowOf (b :: r) := by
        have key : ∀ (l : List Int), (∀ x ∈ l, m ≤ x) → l ≠ [] → m ≤ lowOf l := by
          intro l
          induction l with
          | nil => intro _ h; exact absurd rfl h
          | cons x l ih =>
            intro hx _
            cases l with
            | nil => simpa [lowOf] using hx x (by simp)
            | cons y l => simp only [lowOf]; exact Int.le_min.mpr ⟨hx x (by simp), ih (fun z hz => hx z (List.mem_cons_of_mem _ hz)) (by simp)⟩
        exact key _ (fun x hx => h2 x (List.mem_cons_of_mem _ hx)) (by simp)
      exact Int.min_eq_left this
    · rw [lowOf_spec h' fun x hx => h2 x (List.mem_cons_of_mem _ hx)]
      exact Int.min_eq_right (h2 a (by simp))
theorem numAt_list {ts : List (Int × Tok)} {i : Nat} (hi : i < ts.length) : numAt ts.toArray i = (ts.map (·.1))[i]'(by simpa using hi) := by
  unfold numAt; simp [hi]
theorem Dc.maxL {l : List Int} (hne : l ≠ []) : Dc c n (.builtin "max") [.lst (intsP l)] σ (.int (topOf l)) := fun A X s vs rm S rv => by
  obtain ⟨v, rfl, r⟩ := one_arg rv
  obtain ⟨a, us, k, rfl, hb, ho, rl⟩ := r.lst_inv
  obtain ⟨ts, rfl, rfl⟩ := reps_ints rl
  have hpos : 0 < ts.length := by cases ts with | nil => exact absurd rfl hne | cons _ _ => simp
  have hi : intItems ts.toArray = (ts.map fun p => Value.int p.1 p.2).toArray := by unfold intItems; simp
  refine max_intList (xs := ts.toArray) rm.handled (by rw [hi]; exact isList_of ho) (by simpa using hpos) fun v h' tk hv hk => ?_
  obtain ⟨t, rfl⟩ := intItems_at hv
  obtain ⟨h1, h2⟩ := argBest_gt (numAt ts.toArray) (ts.toArray.size - 1)
  have hsz : ts.toArray.size = ts.length := by simp
  rw [hsz] at h1 h2 hv ⊢
  generalize argBest (fun i j => decide (numAt ts.toArray i > numAt ts.toArray j)) (ts.length - 1) = b at h1 h2 hv ⊢
  have hb' : b < ts.length := by (first | lia | omega)
  refine CPost.grown S hk ?_ ⟨rfl, rfl⟩
  have : topOf (ts.map (·.1)) = numAt ts.toArray b := topOf_spec (by rw [numAt_list hb']; exact List.getElem_mem _) fun x hx => by
    obtain ⟨j, hj, rfl⟩ := List.mem_iff_getElem.mp hx
    have hj' : j < ts.length := by simpa using hj
    rw [← numAt_list hj']; exact h2 j (by (first | lia | omega))
  rw [this]; exact Rep.int
theorem Dc.minL {l : List Int} (hne : l ≠ []) : Dc c n (.builtin "min") [.lst (intsP l)] σ (.int (lowOf l)) := fun A X s vs rm S rv => by
  obtain ⟨v, rfl, r⟩ := one_arg rv
  obtain ⟨a, us, k, rfl, hb, ho, rl⟩ := r.lst_inv
  obtain ⟨ts, rfl, rfl⟩ := reps_ints rl
  have hpos : 0 < ts.length := by cases ts with | nil => exact absurd rfl hne | cons _ _ => simp
  have hi : intItems ts.toArray = (ts.map fun p => Value.int p.1 p.2).toArray := by unfold intItems; simp
  refine min_intList (xs := ts.toArray) rm.handled (by rw [hi]; exact isList_of ho) (by simpa using hpos) fun v h' tk hv hk => ?_
  obtain ⟨t, rfl⟩ := intItems_at hv
  obtain ⟨h1, h2⟩ := argBest_lt (numAt ts.toArray) (ts.toArray.size - 1)
  have hsz : ts.toArray.size = ts.length := by simp
  rw [hsz] at h1 h2 hv ⊢
  generalize argBest (fun i j => decide (numAt ts.toArray i < numAt ts.toArray j)) (ts.length - 1) = b at h1 h2 hv ⊢
  have hb' : b < ts.length := by (first | lia | omega)
  refine CPost.grown S hk ?_ ⟨rfl, rfl⟩
  have : lowOf (ts.map (·.1)) = numAt ts.toArray b := lowOf_spec (by rw [numAt_list hb']; exact List.getElem_mem _) fun x hx => by
    obtain ⟨j, hj, rfl⟩ := List.mem_iff_getElem.mp hx
    have hj' : j < ts.length := by simpa using hj
    rw [← numAt_list hj']; exact h2 j (by (first | lia | omega))
  rw [this]; exact Rep.int
theorem Dc.tupleL {l : List PV} (hz : l.length ≤ 1000000) : Dc c n (.type "tuple") [.lst l] σ (.tup l) := fun A X s vs rm S rv => by
  obtain ⟨v, rfl, r⟩ := one_arg rv
  obtain ⟨a, us, k, rfl, hb, ho, rl⟩ := r.lst_inv
  have hz' : us.toArray.size ≤ sizeLine := by
    have : us.toArray.size = l.length := by rw [← rl.length]; simp
    rw [this]; exact Nat.le_trans hz (by decide)
  refine call_tuple_list (isList_of ho) (fun h' hk => ?_) hz'
  have hk' : s.heap.StaysIn (h'.push { cls := .type "tuple", data := .seq us.toArray }) := fun b o e => Heap.get?_push_of_some _ (hk b o e)
  refine CPost.grown (tk := s.toks) S hk' ?_ ⟨rfl, rfl⟩
  simp only [Rep]
  have S' := S.ext (fun b o e => hk b o e)
  exact ⟨_, us, rfl, good_new S', ⟨_, Heap.get?_push_size _ rfl, rfl, 0, rfl⟩, rl.stay (stay_ext hk')⟩
end
theorem lk_list_keys : typeLookup (.type "list") "keys" = pure none := by rw [typeLookup_type, builtinLookup_eq_fast]; kernel_rfl
section
variable {prog : Program} {w : World} {A : Around} {E : Value → Shared → Prop} {h : Heap} {g : Array GenState} {d : Drawn} {t : Nat} {os : OsState} {a : Addr} {o : Obj}
theorem keys_entry {tk : Tok} {Q : Fin → Shared → Prop} (hh : A.handled = none) {items : Array Value} {n : Nat} (hx : h.get? a = some (PySem.W.listOf items n))
   (hE : ∀ e h' tk', h.StaysIn h' → (∃ o, h'.get? e = some o ∧ o.cls = .type "AttributeError") → E (.ref e) ⟨h', g, d, tk', os⟩) :
    wpAny (model prog w) A (Builtin.«object.__getattribute__» ⟨[.ref a, .str "keys" tk], []⟩) Q E ⟨h, g, d, t, os⟩ := by
  have hT : (⟨h, g, d, t, os⟩ : Shared).TypeIs (.ref a) "list" := ⟨_, hx, rfl⟩
  have f4 := lk_list_keys
  repeat (any_goals (first | assumption | wp_step))
  have hm : (Str.ofString (toString "'" ++ toString ((Manifest.find? "list").elim "list" fun x => x.tpName) ++ toString "' object has no attribute '") ++ Str.ofString "keys" ++ Str.ofString "'").length ≤ sizeLine := by decide +kernel
  generalize (Str.ofString (toString "'" ++ toString ((Manifest.find? "list").elim "list" fun x => x.tpName) ++ toString "' object has no attribute '") ++ Str.ofString "keys" ++ Str.ofString "'") = msg at hm ⊢
  unfold raiseAttrError
  refine wpAny_bind ?_
  unfold mkStr
  rw [if_neg (Nat.not_lt.mpr hm)]
  refine wpAny_bind (wpAny_fresh (wpAny_pure ?_))
  refine wpAny_bind ?_
  simp only [newExc, newTuple]
  refine wpAny_bind (wpAny_newObj_type ?_ (by size_fits))
  refine wpAny_bind (m := firstArgMember _ _) (wpAny_of_eq (a := Value.none) (by first | rfl | (simp only [firstArgMember]; rfl)) ?_)
  refine wpAny_newObj_type ?_ (by size_fits)
  have k2 : h.StaysIn ((h.push { cls := .type "tuple", data := .seq #[.str msg t] }).push { cls := .type "AttributeError", data := .fields (#[.ref h.objs.size, .none, .none, .none, .bool false, .none] ++ ownMembersOf (.type "AttributeError") [.str msg t]) }) := fun b o e => Heap.get?_push_of_some _ (Heap.get?_push_of_some _ e)
  have hE2 : ((h.push { cls := .type "tuple", data := .seq #[.str msg t] }).push { cls := .type "AttributeError", data := .fields (#[.ref h.objs.size, .none, .none, .none, .bool false, .none] ++ ownMembersOf (.type "AttributeError") [.str msg t]) }).get? (h.push { cls := .type "tuple", data := .seq #[.str msg t] }).objs.size = some { cls := .type "AttributeError", data := .fields (#[.ref h.objs.size, .none, .none, .none, .bool false, .none] ++ ownMembersOf (.type "AttributeError") [.str msg t]) } := Heap.get?_push_size _ rfl
  have hen : h.get? (h.push { cls := .type "tuple", data := .seq #[.str msg t] }).objs.size = none := by
    cases q : h.get? (h.push { cls := .type "tuple", data := .seq #[.str msg t] }).objs.size with
    | none => rfl
    | some o => exact absurd (Heap.lt_size (Heap.get?_push_of_some _ q)) (Nat.lt_irrefl _)
  dsimp only
  generalize ((h.push { cls := .type "tuple", data := .seq #[.str msg t] }).push { cls := .type "AttributeError", data := .fields (#[.ref h.objs.size, .none, .none, .none, .bool false, .none] ++ ownMembersOf (.type "AttributeError") [.str msg t]) }) = h2 at k2 hE2 ⊢
  generalize (h.push { cls := .type "tuple", data := .seq #[.str msg t] }).objs.size = e at hE2 hen ⊢
  have hAE := sub_AttributeError
  have hTe : (⟨h2, g, d, t + 1, os⟩ : Shared).TypeIs (.ref e) "AttributeError" := ⟨_, hE2, rfl⟩
  refine wpAny_bind (m := mkText _) ?_
  unfold mkText
  refine wpAny_bind (wpAny_fresh (wpAny_pure ?_))
  refine wpAny_bind ?_
  unfold noteAttr lacksNameAndObj
  refine wpAny_bind (wpAny_bind (wpAny_isInstance (s := ⟨h2, g, d, t + 1 + 1, os⟩) (T := "AttributeError") (b := true) ⟨_, hE2, rfl⟩ hAE ?_))
  simp only [Bool.not_true, Bool.false_eq_true, if_false]
  refine wpAny_bind (wpAny_load hE2 ?_)
  show wpAny _ A (pure true) _ _ _
  refine wpAny_pure ?_
  simp only [if_true]
  refine wpAny_bind (wpAny_rule (wpAny_bind (wpAny_typeOf (T := "AttributeError") ⟨_, hE2, rfl⟩ ?_)))
  show wpAny _ A (layMembers e 6 _) _ _ _
  unfold layMembers
  refine wpAny_bind (wpAny_load hE2 ?_)
  show wpAny _ A (update e _) _ _ _
  refine wpAny_update hE2 ?_
  have hE3 := Heap.get?_update_self (Obj.mapFields fun vs => vs.extract 0 6 ++ #[Value.str (Str.ofString "keys") (t + 1), Value.ref a]) hE2 rfl
  have k3 : h.StaysIn (h2.update e (Obj.mapFields fun vs => vs.extract 0 6 ++ #[Value.str (Str.ofString "keys") (t + 1), Value.ref a])) := fun b o q => (Heap.get?_update_other _ _ (fun y => by rw [← y, hen] at q; cases q)).trans (k2 b o q)
  unfold raiseNew
  refine wpAny_bind (wpAny_handled ?_)
  rw [hh]
  exact wpAny_bind (wpAny_pure (wpAny_throw (hE e _ _ k3 ⟨_, hE3, rfl⟩)))
theorem keys_call {tk : Tok} {R : Result → Shared → Prop} (hh : A.handled = none) {items : Array Value} {n : Nat} (hx : h.get? a = some (PySem.W.listOf items n))
   (hE : ∀ e h' tk', h.StaysIn h' → (∃ o, h'.get? e = some o ∧ o.cls = .type "AttributeError") → R (.error (.ref e)) ⟨h', g, d, tk', os⟩) :
    codeAny (model prog w) A (.call (.builtin "list.__getattribute__") ⟨[.ref a, .str "keys" tk], []⟩) R ⟨h, g, d, t, os⟩ :=
  codeAny_call_builtin F.slot_list_getattribute.plain F.entry_list_ga (F.slot_list_getattribute.check _ _ _ _ _ _ _ _ (show (⟨h, g, d, t, os⟩ : Shared).TypeIs (.ref a) "list" from ⟨_, hx, rfl⟩) (F.args_list_getattribute_2 _ _) (keys_entry (show A.in1.handled = none from hh) hx hE))
theorem keys_by {tk : Tok} {Q : Value → Shared → Prop} (hh : A.handled = none) {items : Array Value} {n : Nat} (hx : h.get? a = some (PySem.W.listOf items n))
   (hE : ∀ e h' tk', h.StaysIn h' → (∃ o, h'.get? e = some o ∧ o.cls = .type "AttributeError") → E (.ref e) ⟨h', g, d, tk', os⟩) : wpAny (model prog w) A (getAttrBy (.ref a) (.str "keys" tk) false) Q E ⟨h, g, d, t, os⟩ := by
  have hT : (⟨h, g, d, t, os⟩ : Shared).TypeIs (.ref a) "list" := ⟨_, hx, rfl⟩
  have f2 := F.slot_list_getattribute.lookup
  have f3 := F.slot_list_getattribute.bind (.ref a)
  repeat (any_goals (first | assumption | wp_step))
  refine keys_call hh hx fun e h' tk' hk he => ?_
  show wpAny _ _ (getattributeRaised _ _ _ _ _ _ _) _ _ _
  obtain ⟨o, ho, hc⟩ := he
  have f5 := am_list_getattr_none
  have f1 := sub_AttributeError
  have hTe : (⟨h', g, d, tk', os⟩ : Shared).TypeIs (.ref e) "AttributeError" := ⟨o, ho, hc⟩
  unfold getattributeRaised
  repeat (any_goals (first | assumption | wp_step))
  exact hE e h' tk' hk ⟨o, ho, hc⟩
theorem list_no_keys {Q : Option Value → Shared → Prop} (hh : A.handled = none) {items : Array Value} {n : Nat} (hx : h.get? a = some (PySem.W.listOf items n))
   (hQ : ∀ h' tk', h.StaysIn h' → Q none ⟨h', g, d, tk', os⟩) : wpAny (model prog w) A (getAttr? (.ref a) "keys") Q E ⟨h, g, d, t, os⟩ := by
  unfold getAttr? getAttrBy? mkText
  refine wpAny_bind (wpAny_bind (wpAny_fresh (wpAny_pure ?_)))
  refine wpAny_bind (wpAny_attempt (keys_by hh hx fun e h' tk' hk he => ?_))
  obtain ⟨o, ho, hc⟩ := he
  have hAE := sub_AttributeError
  refine wpAny_bind (wpAny_isInstance (T := "AttributeError") (b := true) ⟨o, ho, hc⟩ hAE ?_)
  exact wpAny_pure (hQ h' tk' hk)
end
theorem plain_update_loop : plainId "dict.update.loop" = true := by decide +kernel
theorem entry_update_loop : entryFor table "dict.update.loop" = some Builtin.«dict.update.loop» := entryFor_of_fast (by kernel_rfl)
section
variable {prog : Program} {w : World} {A : Around} {E : Value → Shared → Prop} {s : Shared}
theorem key_up {h h' : Heap} (hk : ∀ b o, h.get? b = some o → h'.get? b = some o) {ks : List Int} {a : Addr} (x : (kd prog w).is h ks a) : (kd prog w).is h' ks a := by
  obtain ⟨o, its, n, ho, r⟩ := x
  exact ⟨o, its, n, hk a o ho, r⟩
noncomputable def PairList (prog : Program) (w : World) (h : Heap) (vs : List Value) (P : List (List Int × Addr × Value)) : Prop :=
  vs.length = P.length ∧ ∀ (j : Nat) t, P[j]? = some t → ∃ p, vs[j]? = some (.ref p) ∧ h.IsTuple p #[.ref t.2.1, t.2.2] ∧ (kd prog w).is h t.1 t.2.1
theorem pairs_loop {h₀ : Heap} {a D I : Addr} {vs : List Value} {P : List (List Int × Addr × Value)} {res : Value} {R : Result → Shared → Prop} (hh : A.handled = none) (hu : A.units + 8 < cLine) (hP : PairList prog w h₀ vs P) (hnd : (P.map (·.1)).Nodup) (hDI : D ≠ I) (hD : h₀.get? D = none) (hI : h₀.get? I = none) (ha : ∃ o, h₀.get? a = some o)
    (hsz : P.length ≤ sizeLine) :
    ∀ (k i : Nat) (s : Shared), P.length - i = k → i ≤ P.length → s.heap.IsListIter I a i → s.heap.IsList a vs.toArray → s.heap.DictOfH (kd prog w) D (P.take i) → (∀ b o, h₀.get? b = some o → s.heap.get? b = some o) →
      (∀ h' tk, h'.DictOfH (kd prog w) D P → (∀ b o, h₀.get? b = some o → h'.get? b = some o) → R (.ok (.ret res)) { s with heap := h', toks := tk }) →
      codeAny (model prog w) A (.builtin "dict.update.loop" ⟨[.ref D, .ref I, rawInt i, res], []⟩) R s := by
  have haI : a ≠ I := fun e => by obtain ⟨o, ho⟩ := ha; rw [e, hI] at ho; cases ho
  have haD : a ≠ D := fun e => by obtain ⟨o, ho⟩ := ha; rw [e, hD] at ho; cases ho
  intro k
  induction k with
  | zero =>
    intro i s hk hi hit hl hd h0 hR
    have hin : i = P.length := Nat.le_antisymm hi (Nat.le_of_sub_eq_zero hk)
    subst hin
    refine codeAny_builtin entry_update_loop ?_
    rw [Around.under_plainId plain_update_loop _]
    show wpAny _ A.in1 (pyNext (.ref I) >>= _) _ _ s
    refine wpAny_bind (wpAny_pyNext_list_end hh hit hl (by simp [hP.1]) fun h' hx => ?_)
    show wpAny _ A.in1 (Builtin.Dict.addKeywords D [] >>= _) _ _ _
    refine wpAny_bind (wpAny_pure (wpAny_pure ?_))
    rw [List.take_length] at hd
    have hk' : ∀ b o, h₀.get? b = some o → h'.get? b = some o := fun b o e => hx b o (fun y => by rw [y, hI] at e; cases e) (h0 b o e)
    refine hR h' s.toks ?_ hk'
    obtain ⟨o, es, ep, ho, r1, r2, r3, r4, r5⟩ := hd
    refine ⟨o, es, ep, hx D o hDI ho, r1, r2, r3, fun x hx' => ?_, r5⟩
    obtain ⟨j, hj⟩ := List.mem_iff_getElem?.mp hx'
    obtain ⟨p, _, _, q⟩ := hP.2 j x hj
    exact key_up hk' q
  | succ k ih =>
    intro i s hk hi hit hl hd h0 hR
    have hlt : i < P.length := Nat.sub_pos_iff_lt.mp (hk ▸ Nat.succ_pos k)
    obtain ⟨p, hp, htup, hkey⟩ := hP.2 i P[i] (List.getElem?_eq_getElem hlt)
    refine codeAny_builtin entry_update_loop ?_
    rw [Around.under_plainId plain_update_loop _]
    show wpAny _ A.in1 (pyNext (.ref I) >>= _) _ _ s
    refine wpAny_bind (wpAny_pyNext_list_item hit hl (x := .ref p) (by simpa using hp) fun h₁ hit₁ hs₁ => ?_)
    have hk₁ : ∀ b o, h₀.get? b = some o → h₁.get? b = some o := fun b o e => hs₁.extBut b o (fun y => by rw [y, hI] at e; cases e) (h0 b o e)
    obtain ⟨ot, hot, hct, nt, hdt⟩ := htup
    have hot₁ := hk₁ _ _ hot
    refine wpAny_bind (wpAny_holding (wpAny_bind (wpAny_tryCatch ?_)))
    unfold Builtin.Dict.pairItems
    refine wpAny_bind (wpAny_typeOf (T := "tuple") ⟨ot, hot₁, hct⟩ ?_)
    show wpAny _ A.in1 (seqItems? (.ref p) >>= _) _ _ _
    refine wpAny_bind (wpAny_seqItems hot₁ hdt (wpAny_pure ?_))
    show wpAny _ A.in1 (holding [.ref P[i].2.1, P[i].2.2] (dictSet D (.ref P[i].2.1) P[i].2.2)) _ _ _
    have hd₁ : h₁.DictOfH (kd prog w) D (P.take i) := by
      obtain ⟨o, es, ep, ho, r1, r2, r3, r4, r5⟩ := hd
      refine ⟨o, es, ep, hs₁.extBut D o hDI ho, r1, r2, r3, fun x hx' => ?_, r5⟩
      obtain ⟨j, hj⟩ := List.mem_iff_getElem?.mp (List.mem_of_mem_take hx')
      obtain ⟨p, _, _, q⟩ := hP.2 j x hj
      exact key_up hk₁ q
    have hnew : atKey (P.take i) P[i].1 = none := by
      refine atKey_none_of_get fun j q e => ?_
      have hj : j < i := by
        have := (List.getElem?_eq_some_iff.mp e).1
        rw [List.length_take] at this; exact Nat.lt_of_lt_of_le this (Nat.min_le_left ..)
      have e' : P[j]? = some (P[i].1, q) := by rw [List.getElem?_take] at e; split at e <;> first | exact e | cases e
      have h1 : (P.map (·.1))[j]? = some P[i].1 := by rw [List.getElem?_map, e']; rfl
      have h2 : (P.map (·.1))[i]? = some P[i].1 := by rw [List.getElem?_map, List.getElem?_eq_getElem hlt]; rfl
      have := (List.getElem?_inj (List.getElem?_eq_some_iff.mp h1).1 hnd).mp (h1.trans h2.symm)
      exact Nat.lt_irrefl _ (this ▸ hj)
    refine wpAny_holding (wpAny_dictSet_heap (knd := kd prog w) (show A.in1.units < cLine from by show A.units + 1 < cLine; (first | lia | omega)) (key_up hk₁ hkey) hd₁ (fun h₂ hd₂ hs₂ => ?_) (by rw [List.length_take]; (first | lia | omega)))
    rw [storedH_new hnew] at hd₂
    have hk₂ : ∀ b o, h₀.get? b = some o → h₂.get? b = some o := fun b o e => hs₂.extBut b o (fun y => by rw [y, hD] at e; cases e) (hk₁ b o e)
    have htk : P.take i ++ [(P[i].1, P[i].2.1, P[i].2.2)] = P.take (i + 1) := by rw [List.take_add_one, List.getElem?_eq_getElem hlt]; rfl
    rw [htk] at hd₂
    refine wpAny_pure ⟨plainId_quiet plain_update_loop _, ?_⟩
    have := ih (i + 1) { s with heap := h₂, toks := s.toks + (kd prog w).draws P[i].1 } (by rw [Nat.sub_add_eq, hk]; rfl) hlt (hit₁.extBut hs₂.extBut (Ne.symm hDI)) ((hl.extBut hs₁.extBut haI).extBut hs₂.extBut haD) hd₂ hk₂ fun h' tk a b => hR h' tk a b
    exact this
theorem call_dict_pairs {a : Addr} {vs : List Value} {n : Nat} {P : List (List Int × Addr × Value)} {Q : Value → Shared → Prop} (hh : A.handled = none) (hu : A.units + 16 < cLine) (ha : s.heap.get? a = some (PySem.W.listOf vs.toArray n)) (hP : PairList prog w s.heap vs P) (hnd : (P.map (·.1)).Nodup) (hsz : P.length ≤ sizeLine)
    (hQ : ∀ h' tk, h'.DictOfH (kd prog w) s.heap.objs.size P → (∀ b o, s.heap.get? b = some o → h'.get? b = some o) → Q (.ref s.heap.objs.size) { s with heap := h', toks := tk }) : wpAny (model prog w) A (call (.type "dict") [.ref a]) Q E s := by
  refine callType_codes (Q₁ := fun obj s₁ => obj = .ref s.heap.objs.size ∧ s₁ = { s with heap := s.heap.push { cls := .type "dict", data := .dict #[] } }) F.kt_called_dict (F.kt_typeCall_dict_1 _) F.entry_dict_init (kt_code_dict_new _ ⟨rfl, rfl⟩) ?_
  rintro obj s₁ ⟨rfl, rfl⟩
  have hDn : s.heap.get? s.heap.objs.size = none := size_none _
  have hnew : (s.heap.push { cls := .type "dict", data := .dict #[] }).DictOfH (kd prog w) s.heap.objs.size [] := Heap.DictOfH.new s.heap
  have k1 : ∀ b o, s.heap.get? b = some o → (s.heap.push { cls := .type "dict", data := .dict #[] }).get? b = some o := fun b o e => Heap.get?_push_of_some _ e
  refine ⟨hnew.typeIs, F.args_dict_init_2 _ _, ?_⟩
  generalize s.heap.objs.size = D at hDn hnew hQ ⊢
  generalize s.heap.push { cls := .type "dict", data := .dict #[] } = h₁ at hnew k1 ⊢
  unfold Builtin.«dict.__init__»
  refine wpAny_bind ?_
  unfold Builtin.Dict.selfAndRest
  refine wpAny_bind (wpAny_notOrdered_dict (s := { s with heap := h₁ }) hnew.typeIs ?_)
  show wpAny _ _ (pure (D, [Value.ref a])) _ _ _
  refine wpAny_pure ?_
  show wpAny _ _ (Builtin.Dict.updateFrom "dict.__init__" D (.ref a) [] .none) _ _ _
  unfold Builtin.Dict.updateFrom
  have hT : Shared.TypeIs { s with heap := h₁ } (.ref a) "list" := ⟨_, k1 _ _ ha, rfl⟩
  refine wpAny_bind (wpAny_typeOf hT ?_)
  rw [if_pos (by decide)]
  refine wpAny_bind ?_
  obtain ⟨hp0, g, d, tk, os⟩ := s
  refine list_no_keys (h := h₁) (show A.in1.in1.handled = none from hh) (k1 _ _ ha) fun h₂ tk₂ k2 => ?_
  simp only [Option.isNone_none, if_true]
  refine wpAny_bind (wpAny_rule (wpAny_bind (wpAny_pyIter_list (isList_of (k2 _ _ (k1 _ _ ha))) ?_)))
  have hDo : ∃ o, h₁.get? D = some o := let ⟨o, _, _, e, _⟩ := hnew; ⟨o, e⟩
  have k3 : ∀ b o, h₁.get? b = some o → (h₂.push { cls := .type "list_iterator", data := .fields #[.ref a, .int 0 0] }).get? b = some o := fun b o e => Heap.get?_push_of_some _ (k2 b o e)
  have hDI : D ≠ h₂.objs.size := by
    obtain ⟨o, e⟩ := hDo
    exact Nat.ne_of_lt (Heap.lt_size (k2 _ _ e))
  have hI0 : hp0.get? h₂.objs.size = none := by
    cases q : hp0.get? h₂.objs.size with
    | none => rfl
    | some o => exact absurd (Heap.lt_size (k2 _ _ (k1 _ _ q))) (Nat.lt_irrefl _)
  refine wpAny_pure ⟨plainId_quiet plain_update_loop _, ?_⟩
  have hit : (h₂.push { cls := .type "list_iterator", data := .fields #[.ref a, .int 0 0] }).IsListIter h₂.objs.size a 0 := ⟨_, Heap.get?_push_size _ rfl, rfl, rfl⟩
  have k03 : ∀ b o, hp0.get? b = some o → (h₂.push { cls := .type "list_iterator", data := .fields #[.ref a, .int 0 0] }).get? b = some o := fun b o e => k3 b o (k1 b o e)
  have hd3 : (h₂.push { cls := .type "list_iterator", data := .fields #[.ref a, .int 0 0] }).DictOfH (kd prog w) D [] := by
    obtain ⟨o, es, ep, ho, r1, r2, r3, r4, r5⟩ := hnew
    exact ⟨o, es, ep, k3 D o ho, r1, r2, r3, fun x hx => (nomatch hx), r5⟩
  have := pairs_loop (A := A.in1) (h₀ := hp0) (a := a) (D := D) (I := h₂.objs.size) (res := .none) (R := wants (fun r s₂ => r = .none ∧ Q (.ref D) s₂) E) (show A.in1.handled = none from hh) (show A.units + 1 + 8 < cLine from by (first | lia | omega)) hP hnd hDI hDn hI0 ⟨_, ha⟩ hsz P.length 0
    { heap := h₂.push { cls := .type "list_iterator", data := .fields #[.ref a, .int 0 0] }, gens := g, drawn := d, toks := tk₂, os := os } rfl (Nat.zero_le _) hit (isList_of (k03 _ _ ha)) hd3 k03 fun h' tk' a1 a2 => ⟨rfl, hQ h' tk' a1 a2⟩
  exact this
end
section
variable {prog : Program} {w : World} {A : Around} {E : Value → Shared → Prop} {s : Shared}
theorem range_step {i n : Nat} {x : Nat} {rest : List Nat} (hr : x :: rest = List.range' i (n - i)) : i < n ∧ x = i ∧ rest = List.range' (i + 1) (n - (i + 1)) := by
  have hlt : i < n := by
    rcases Nat.lt_or_ge i n with h | h
    · exact h
    · rw [Nat.sub_eq_zero_of_le h] at hr; simp at hr
  have e : n - i = (n - (i + 1)) + 1 := by (first | lia | omega)
  rw [e, List.range'_succ] at hr
  injection hr with h1 h2
  exact ⟨hlt, h1, h2⟩
theorem range_end {i n : Nat} (hr : [] = List.range' i (n - i)) (hi : i ≤ n) : i = n := by
  rcases Nat.lt_or_ge i n with h | h
  · have e : n - i = (n - (i + 1)) + 1 := by omega
    rw [e, List.range'_succ] at hr; exact nomatch hr
  · exact Nat.le_antisymm hi h
theorem set_hashed_new {d a : Addr} {xs : List (List Int × Addr × Value)} {k : List Int} {v : Value} {Q : Unit → Shared → Prop} (hu : A.units < cLine) (hkey : (kd prog w).is s.heap k a) (hm : s.heap.DictOfH (kd prog w) d xs) (hnew : k ∉ xs.map (·.1)) (hsz : xs.length ≤ sizeLine)
    (hQ : ∀ h', h'.DictOfH (kd prog w) d (xs ++ [(k, a, v)]) → Heap.SameBut d s.heap h' → Q () { s with heap := h' }) : wpAny (model prog w) A (dictSetHashed d (.ref a) ((kd prog w).hash k) v) Q E s := by
  obtain ⟨o, es, ep, ho, hc, hd, he, his, hn⟩ := hm
  unfold dictSetHashed
  try with_reducible refine wpAny_holding ?_
  refine wpAny_bind (wpAny_dictFind_heap (knd := kd prog w) hu hkey ho hd he his hn (fun hno => ?_) fun j p hj => ?_)
  · refine wpAny_bind (wpAny_rule (wpAny_updateDictKeys (hz := by have e := size_of_entries he; (first | lia | omega)) ho hd (hQ _ ⟨_, _, ep + 1, Heap.get?_update_self _ ho (Obj.isFreed_of_dict (Obj.data_mapDictKeys hd _)), hc.mapDictKeys _, Obj.data_mapDictKeys hd _, ?_, ?_, ?_⟩ (Heap.SameBut.update ..))))
    · simp [he, entryOfKey]
    · intro x hx
      rcases List.mem_append.mp hx with hx | hx
      · exact (kd prog w).keeps (his x hx) ho hd (Heap.SameBut.update ..)
      · simp only [List.mem_singleton] at hx
        subst hx
        exact (kd prog w).keeps hkey ho hd (Heap.SameBut.update ..)
    · rw [List.map_append, List.nodup_append]
      refine ⟨hn, by simp, ?_⟩
      intro x hx y hy
      simp only [List.map_cons, List.map_nil, List.mem_singleton] at hy
      subst hy
      exact fun e => hnew (e ▸ hx)
  · exact absurd (List.mem_map.mpr ⟨(k, p), List.mem_of_getElem? hj, rfl⟩) hnew
theorem merge_apart {nm : String} {d o : Addr} {xs ys : List (List Int × Addr × Value)} {Q : Unit → Shared → Prop} (hu : A.units < cLine) (hdo : d ≠ o) (hoS : (o == sysModules) = false) (hd : s.heap.DictOfH (kd prog w) d xs) (ho : s.heap.DictOfH (kd prog w) o ys) (hx : xs ≠ []) (hn : (xs.map (·.1) ++ ys.map (·.1)).Nodup) (hsz : xs.length + ys.length ≤ sizeLine)
    (hQ : ∀ h', h'.DictOfH (kd prog w) d (xs ++ ys) → Heap.SameBut d s.heap h' → Q () { s with heap := h' }) : wpAny (model prog w) A (Builtin.Dict.mergeDict nm d o) Q E s := by
  obtain ⟨od, esd, epd, hod, hcd, hdd, hed, hid, hnd⟩ := id hd
  obtain ⟨oo, eso, epo, hoo, hco, hdo', heo, hio, hno⟩ := id ho
  unfold Builtin.Dict.mergeDict
  rw [if_neg (by simpa using hdo)]
  unfold Builtin.Dict.showsAll
  rw [if_neg (by rw [hoS]; exact Bool.false_ne_true)]
  refine wpAny_bind (wpAny_pure ?_)
  refine wpAny_bind (wpAny_dictEntries hoo hdo' ?_)
  have hlen : ys.length = eso.size := (size_of_entries heo).symm
  have loop : wpAny (model prog w) A (do
      let epoch ← dictEpoch o
      let l ← dictEntries o
      forIn [:l.size] PUnit.unit fun i (_ : PUnit) => (do
          let l' ← dictEntries o
          match l'[i]? with
            | some e => do
              holding [e.key, e.val] (dictSetHashed d e.key e.hash e.val)
              let ep' ← dictEpoch o
              if (ep' != epoch) = true then do
                  (unsupported (toString nm ++ toString ":source-changed-during-callback") : Sem PUnit)
                  pure (ForInStep.yield PUnit.unit)
                else pure (ForInStep.yield PUnit.unit)
            | _ => do
              (unsupported "internal:dict-merge" : Sem PUnit)
              pure (ForInStep.yield PUnit.unit) : Sem (ForInStep PUnit))
      pure ()) Q E s := by
    refine wpAny_bind (wpAny_dictEpoch hoo hdo' ?_)
    refine wpAny_bind (wpAny_dictEntries hoo hdo' ?_)
    refine wpAny_bind ?_
    rw [Std.Legacy.Range.forIn_eq_forIn_range']
    simp only [Std.Legacy.Range.size, Nat.sub_zero, Nat.add_sub_cancel, Nat.div_one]
    refine wpAny_forIn_list _
      (fun rest _ s' => ∃ h' i, s' = { s with heap := h' } ∧ rest = List.range' i (eso.size - i) ∧ i ≤ eso.size ∧ h'.DictOfH (kd prog w) d (xs ++ ys.take i) ∧ h'.get? o = some oo ∧ Heap.SameBut d s.heap h')
      _ ?_ ?_ _ _ ⟨s.heap, 0, rfl, by simp, Nat.zero_le _, by simpa using hd, hoo, Heap.SameBut.refl _ _⟩
    · rintro x rest b s' ⟨h', i, rfl, hr, hi, hd', hoo', hs'⟩
      obtain ⟨hlt, rfl, hrest⟩ := range_step hr
      have hlt' : x < ys.length := by rw [hlen]; exact hlt
      refine wpAny_bind (wpAny_dictEntries hoo' hdo' ?_)
      have hent : eso[x]? = some (entryOfKey (kd prog w) ys[x]) := by rw [entry_at heo x, List.getElem?_eq_getElem hlt']; rfl
      rw [hent]
      have hd3 := hd'
      obtain ⟨od', esd', epd', hod', hcd', hdd', hed', hid', hnd'⟩ := hd3
      have hkey : (kd prog w).is h' ys[x].1 ys[x].2.1 := (kd prog w).keeps (hio ys[x] (List.getElem_mem hlt')) hod hdd hs'
      show wpAny _ _ (holding [.ref ys[x].2.1, ys[x].2.2] (dictSetHashed d (.ref ys[x].2.1) ((kd prog w).hash ys[x].1) ys[x].2.2) >>= _) _ _ _
      have hnew : ys[x].1 ∉ (xs ++ ys.take x).map (·.1) := fun hm => by
        rw [List.map_append, List.mem_append] at hm
        rw [List.nodup_append] at hn
        have hy : ys[x].1 ∈ ys.map (·.1) := List.mem_map.mpr ⟨ys[x], List.getElem_mem hlt', rfl⟩
        rcases hm with hm | hm
        · exact hn.2.2 _ hm _ hy rfl
        · obtain ⟨z, hz, e⟩ := List.mem_map.mp hm
          obtain ⟨j, hj⟩ := List.mem_iff_getElem?.mp hz
          have hjx : j < x := by
            have := (List.getElem?_eq_some_iff.mp hj).1
            rw [List.length_take] at this; (first | lia | omega)
          rw [List.getElem?_take, if_pos hjx] at hj
          have h1 : (ys.map (·.1))[j]? = some ys[x].1 := by rw [List.getElem?_map, hj, ← e]; rfl
          have h2 : (ys.map (·.1))[x]? = some ys[x].1 := by rw [List.getElem?_map, List.getElem?_eq_getElem hlt']; rfl
          have := (List.getElem?_inj (List.getElem?_eq_some_iff.mp h1).1 hn.2.1).mp (h1.trans h2.symm)
          (first | lia | omega)
      refine wpAny_bind (wpAny_holding (set_hashed_new hu hkey hd' hnew (by rw [List.length_append, List.length_take]; (first | lia | omega)) fun h'' hd'' hs'' => ?_))
      have hoo'' : h''.get? o = some oo := (hs''.2 o (Ne.symm hdo)).trans hoo'
      refine wpAny_bind (wpAny_dictEpoch hoo'' hdo' ?_)
      rw [if_neg (by simp)]
      refine wpAny_pure ⟨h'', x + 1, rfl, hrest, hlt, ?_, hoo'', hs'.trans hs''⟩
      rw [List.append_assoc] at hd''
      have : ys.take x ++ [(ys[x].1, ys[x].2.1, ys[x].2.2)] = ys.take (x + 1) := by rw [List.take_add_one, List.getElem?_eq_getElem hlt']; rfl
      rw [this] at hd''
      exact hd''
    · rintro b s' ⟨h', i, rfl, hr, hi, hd', hoo', hs'⟩
      have hin := range_end hr hi
      refine wpAny_pure (hQ h' ?_ hs')
      rw [hin, ← hlen, List.take_length] at hd'; exact hd'
  dsimp only
  have hne : esd.isEmpty = false := by
    have e1 := size_of_entries hed
    have e2 : xs.length ≠ 0 := fun h => hx (List.length_eq_zero_iff.mp h)
    cases q : esd.isEmpty with
    | false => rfl
    | true => rw [Array.isEmpty_iff.mp q] at e1; exact absurd e1.symm e2
  split
  · refine wpAny_bind (wpAny_dictEntries hod hdd ?_)
    rw [if_neg (by rw [hne]; exact Bool.false_ne_true)]
    exact loop
  · exact loop
theorem same_pairs {nm : String} {a b : Addr} {xs ys : List (List Int × Addr × Value)} {Q : Bool → Shared → Prop} (hu : A.units < cLine) (ha : (a == sysModules) = false) (hb : (b == sysModules) = false) (da : s.heap.DictOfH (kd prog w) a xs) (db : s.heap.DictOfH (kd prog w) b ys) (hl : xs.length = ys.length)
    (hv : ∀ x ∈ xs, ∃ p t v u, atKey ys x.1 = some p ∧ x.2.2 = .ref v ∧ p.2 = .ref u ∧ (kd prog w).is s.heap t v ∧ (kd prog w).is s.heap t u) (h : Q true s) : wpAny (model prog w) A (Builtin.Dict.samePairs nm a b) Q E s := by
  obtain ⟨oa, es, ep, hoa, _, hda, hea, hia, hna⟩ := da
  obtain ⟨ob, es', ep', hob, _, hdb, heb, hib, hnb⟩ := db
  have hla := size_of_entries hea
  have hlb := size_of_entries heb
  unfold Builtin.Dict.samePairs Builtin.Dict.showsAll
  rw [if_neg (show ¬ (a == sysModules) = true by rw [ha]; exact Bool.false_ne_true), if_neg (show ¬ (b == sysModules) = true by rw [hb]; exact Bool.false_ne_true)]
  refine wpAny_bind (wpAny_pure (wpAny_bind (wpAny_pure ?_)))
  refine wpAny_bind (wpAny_dictEntries hoa hda ?_)
  dsimp only
  refine wpAny_bind (wpAny_dictEntries hob hdb ?_)
  rw [if_neg (by rw [hla, hlb, hl]; simp)]
  refine wpAny_bind (wpAny_dictEpoch hoa hda ?_)
  refine wpAny_bind ?_
  rw [Std.Legacy.Range.forIn_eq_forIn_range']
  simp only [Std.Legacy.Range.size, Nat.sub_zero, Nat.add_sub_cancel, Nat.div_one]
  refine wpAny_forIn_list _ (fun rest q s' => s' = s ∧ q = (none, ()) ∧ ∃ i, rest = List.range' i (es.size - i) ∧ i ≤ es.size) _ ?_ ?_ _ _ ⟨rfl, rfl, 0, by simp, Nat.zero_le _⟩
  · rintro x rest q s' ⟨rfl, rfl, i, hr, hi⟩
    obtain ⟨hlt, rfl, hrest⟩ := range_step hr
    have hlt' : x < xs.length := by (first | lia | omega)
    refine wpAny_bind (wpAny_dictEntries hoa hda ?_)
    have hent : es[x]? = some (entryOfKey (kd prog w) xs[x]) := by rw [entry_at hea x, List.getElem?_eq_getElem hlt']; rfl
    rw [hent]
    obtain ⟨p, t, v, u, hat, hxv, hpu, tv, tu⟩ := hv xs[x] (List.getElem_mem hlt')
    show wpAny _ _ (holding [.ref xs[x].2.1, xs[x].2.2] (dictFind b (.ref xs[x].2.1) ((kd prog w).hash xs[x].1) >>= _) >>= _) _ _ _
    refine wpAny_bind (wpAny_holding (wpAny_bind (wpAny_dictFind_heap (knd := kd prog w) hu (hia _ (List.getElem_mem hlt')) hob hdb heb hib hnb (fun hno => ?_) fun j q hj => ?_)))
    · exact absurd (atKey_none_of_get hno) (by rw [hat]; exact fun z => nomatch z)
    · have hq := atKey_of_get hnb hj
      rw [hat] at hq
      cases hq
      refine wpAny_bind (wpAny_dictEntries hob hdb ?_)
      have hent' : es'[j]? = some (entryOfKey (kd prog w) (xs[x].1, p)) := by rw [entry_at heb j, hj]; rfl
      rw [hent']
      show wpAny _ _ (holding [p.2] (eqBool (entryOfKey (kd prog w) xs[x]).val p.2)) _ _ _
      rw [hpu, show (entryOfKey (kd prog w) xs[x]).val = Value.ref v from hxv]
      refine wpAny_holding ((kd prog w).eqBool hu tv tu ?_)
      rw [decide_eq_true rfl]
      show wpAny _ _ (if (!true) = true then _ else _) _ _ _
      rw [if_neg (by decide)]
      refine wpAny_bind (wpAny_dictEpoch hoa hda ?_)
      rw [if_neg (by simp)]
      exact wpAny_pure ⟨rfl, rfl, x + 1, hrest, hlt⟩
  · rintro q s' ⟨rfl, rfl, i, hr, hi⟩
    exact wpAny_pure h
theorem dict_eq {a b : Addr} {xs ys : List (List Int × Addr × Value)} {Q : Value → Shared → Prop} (hu : A.units + 4 < cLine) (ha : (a == sysModules) = false) (hb : (b == sysModules) = false) (da : s.heap.DictOfH (kd prog w) a xs) (db : s.heap.DictOfH (kd prog w) b ys) (hl : xs.length = ys.length)
    (hv : ∀ x ∈ xs, ∃ p t v u, atKey ys x.1 = some p ∧ x.2.2 = .ref v ∧ p.2 = .ref u ∧ (kd prog w).is s.heap t v ∧ (kd prog w).is s.heap t u) (h : Q (.bool true) s) : wpAny (model prog w) A (compareOp .Eq (.ref a) (.ref b)) Q E s := by
  refine wpAny_richCompare_same_room (op := .Eq) da.typeIs db.typeIs PySem.F.slot_dict_eq (wpAny_call_entry PySem.F.slot_dict_eq da.typeIs PySem.F.entry_dict_eq ?_ (PySem.F.args_dict_eq_2 _ _)) (by (first | lia | omega))
  show wpAny _ _ (Builtin.Dict.dictSlotArgs "__eq__" ⟨[.ref a, .ref b], []⟩ >>= _) _ _ s
  refine wpAny_bind ?_
  unfold Builtin.Dict.dictSlotArgs
  refine wpAny_bind (wpAny_notOrdered_dict da.typeIs ?_)
  show wpAny _ _ (pure (Value.ref a, Value.ref b)) _ _ s
  refine wpAny_pure ?_
  refine wpAny_bind (wpAny_isInstance (T := "dict") db.typeIs PySem.F.sub_dict_dict ?_)
  simp only [Bool.not_true, Bool.false_eq_true, if_false]
  refine wpAny_bind (wpAny_pure (wpAny_bind (wpAny_pure ?_)))
  refine wpAny_bind (same_pairs (show A.in1.units < cLine from by show A.units + 1 < cLine; (first | lia | omega)) ha hb da db hl hv ?_)
  refine wpAny_pure ⟨_, rfl, ?_, ?_⟩
  · exact fun x => nomatch x
  · simpa using h
theorem dict_ne {a b : Addr} {xs ys : List (List Int × Addr × Value)} {Q : Value → Shared → Prop} (hu : A.units + 4 < cLine) (ha : (a == sysModules) = false) (hb : (b == sysModules) = false) (da : s.heap.DictOfH (kd prog w) a xs) (db : s.heap.DictOfH (kd prog w) b ys) (hl : xs.length = ys.length)
    (hv : ∀ x ∈ xs, ∃ p t v u, atKey ys x.1 = some p ∧ x.2.2 = .ref v ∧ p.2 = .ref u ∧ (kd prog w).is s.heap t v ∧ (kd prog w).is s.heap t u) (h : Q (.bool false) s) : wpAny (model prog w) A (compareOp .NotEq (.ref a) (.ref b)) Q E s := by
  refine wpAny_richCompare_same_room (op := .NotEq) da.typeIs db.typeIs PySem.F.slot_dict_ne (wpAny_call_entry PySem.F.slot_dict_ne da.typeIs PySem.F.entry_dict_ne ?_ (PySem.F.args_dict_ne_2 _ _)) (by (first | lia | omega))
  show wpAny _ _ (Builtin.Dict.dictSlotArgs "__ne__" ⟨[.ref a, .ref b], []⟩ >>= _) _ _ s
  refine wpAny_bind ?_
  unfold Builtin.Dict.dictSlotArgs
  refine wpAny_bind (wpAny_notOrdered_dict da.typeIs ?_)
  show wpAny _ _ (pure (Value.ref a, Value.ref b)) _ _ s
  refine wpAny_pure ?_
  refine wpAny_bind (wpAny_isInstance (T := "dict") db.typeIs PySem.F.sub_dict_dict ?_)
  simp only [Bool.not_true, Bool.false_eq_true, if_false]
  refine wpAny_bind (wpAny_pure (wpAny_bind (wpAny_pure ?_)))
  refine wpAny_bind (same_pairs (show A.in1.units < cLine from by show A.units + 1 < cLine; (first | lia | omega)) ha hb da db hl hv ?_)
  refine wpAny_pure ⟨_, rfl, ?_, ?_⟩
  · exact fun x => nomatch x
  · simpa using h
end
section
variable {prog : Program} {w : World} {K : Frag} {c : Cx prog w K} {n : Nat} {env : Env} {ρ ρ' : List (Option PV)} {σ : Sto}
theorem CPost.upd {X : Addr → Prop} {s : Shared} {Q : PV → Sto → Prop} {v : Value} {pv : PV} {tk : Nat} {h' : Heap} {a : Addr} {b : Box} (S : Sat prog w c.G X s.heap σ) (hk : ∀ x o, s.heap.get? x = some o → x ≠ a → h'.get? x = some o) (hn : σ a ≠ none ∨ s.heap.get? a = none)
    (hb : Stay s.heap (Bad X σ) h' (Bad X (σ.upd a b)) → BoxRep prog w h' (Bad X (σ.upd a b)) a b) (hv : Stay s.heap (Bad X σ) h' (Bad X (σ.upd a b)) → Rep prog w h' (Bad X (σ.upd a b)) pv v) (q : Q pv (σ.upd a b)) : CPost c X s σ Q v { s with heap := h', toks := tk } :=
  have st := stay_upd (X := X) (b := b) hk hn
  ⟨pv, _, hv st, S.upd hk hn (hb st), step_upd hk hn, q⟩
theorem some_ne {σ : Sto} {a : Addr} {b : Box} (h : σ a = some b) : σ a ≠ none := by rw [h]; exact fun z => nomatch z
theorem Ca.append {a : Addr} {l : List PV} {p : PV} {Q : PV → Sto → Prop} (hs : σ a = some (.list l)) (hz : l.length ≤ 100000) (q : Q .none (σ.upd a (.list (l ++ [p])))) : Ca c n (.builtin "list.append") [.at a, p] σ Q := fun A X s vs rm S rv => by
  obtain ⟨v, u, rfl, r1, r2⟩ := two_args rv
  have := r1.at_inv
  subst this
  obtain ⟨us, k, ho, rl⟩ := (S.gs a _ hs).2
  refine wpAny_list_append_plain (items := us.toArray) ⟨k, ho⟩ (fun h' hp hs' => ?_) (by rw [List.size_toArray, rl.length]; exact Nat.le_trans hz (by decide))
  obtain ⟨k', ho'⟩ := hp
  refine CPost.upd (tk := s.toks) (b := .list (l ++ [p])) S (fun x o e z => (hs'.2 x z).trans e) (.inl (some_ne hs)) (fun st => ⟨us ++ [u], k', by rw [ho']; simp, (rl.stay st).append (Reps.cons (r2.stay st) Reps.nil)⟩) (fun st => Rep.none) q
theorem mapSeq_list {xs : Array Value} {k : Nat} {f : Array Value → Array Value} : ∃ k', Obj.mapSeq f (PySem.W.listOf xs k) = PySem.W.listOf (f xs) k' := ⟨_, rfl⟩
theorem Ca.pop {a : Addr} {l : List PV} {p : PV} {Q : PV → Sto → Prop} (hs : σ a = some (.list (l ++ [p]))) (hz : l.length ≤ 100000) (q : Q p (σ.upd a (.list l))) : Ca c n (.builtin "list.pop") [.at a] σ Q := fun A X s vs rm S rv => by
  obtain ⟨v, rfl, r1⟩ := one_arg rv
  have := r1.at_inv
  subst this
  obtain ⟨us, k, ho, rl⟩ := (S.gs a _ hs).2
  have hlen := rl.length
  simp only [List.length_append, List.length_singleton] at hlen
  obtain ⟨y, hy, ry⟩ := rl.get (i := l.length) (p := p) (by simp)
  have hsz : us.toArray.size - 1 = l.length := by simp [hlen]
  refine call_meets F.slot_list_pop ⟨_, ho, rfl⟩ F.entry_list_pop (F.args_list_pop_1 _) (MeetsSeq.list_pop_last a us.toArray k y (by rw [hsz]; simpa using hy) (by rw [List.size_toArray, hlen]; exact Nat.le_trans (Nat.add_le_add_right hz 1) (by decide))) ⟨ho, ?_⟩
  obtain ⟨k', hk'⟩ := mapSeq_list (xs := us.toArray) (k := k) (f := fun xs => xs.eraseIdxIfInBounds (us.toArray.size - 1))
  have ho' := Heap.get?_update_self (Obj.mapSeq fun xs => xs.eraseIdxIfInBounds (us.toArray.size - 1)) ho rfl
  rw [hk'] at ho'
  have hus : us.toArray.eraseIdxIfInBounds (us.toArray.size - 1) = (us.take l.length).toArray := by
    rw [hsz]
    apply Array.ext'
    simp only [Array.eraseIdxIfInBounds]
    have : l.length < us.toArray.size := by simp [hlen]
    rw [dif_pos this]
    simp only [List.eraseIdx_toArray, List.toList_toArray]
    rw [List.eraseIdx_eq_take_drop_succ]
    have : us.drop (l.length + 1) = [] := List.drop_eq_nil_iff.mpr (by (first | lia | omega))
    rw [this, List.append_nil]
  rw [hus] at ho'
  show CPost c X s σ Q y _
  refine CPost.upd (tk := s.toks) (b := .list l) S (fun x o e z => (Heap.get?_update_other _ _ (Ne.symm z)).trans e) (.inl (some_ne hs)) (fun st => ⟨us.take l.length, k', ho', ?_⟩) (fun st => ry.stay st) q
  have := Reps.take l.length (rl.stay st)
  rw [List.take_left'  rfl] at this
  exact this
theorem Ca.extend {a : Addr} {l m : List PV} {Q : PV → Sto → Prop} (hs : σ a = some (.list l)) (hz : l.length ≤ 100000) (hz' : m.length ≤ 100000) (q : Q .none (σ.upd a (.list (l ++ m)))) : Ca c n (.builtin "list.extend") [.at a, .lst m] σ Q := fun A X s vs rm S rv => by
  obtain ⟨v, u, rfl, r1, r2⟩ := two_args rv
  have := r1.at_inv
  subst this
  obtain ⟨us, k, ho, rl⟩ := (S.gs a _ hs).2
  obtain ⟨d, ws, k2, rfl, hb, ho2, rm2⟩ := r2.lst_inv
  have hlen := rl.length
  have hlen2 := rm2.length
  have e1 : us.toArray.size = l.length := by simp [hlen]
  have e2 : ws.toArray.size = m.length := by simp [hlen2]
  have e3 : us.toArray.size + ws.toArray.size ≤ sizeLine + 1 := by
    have : sizeLine = 16777216 := by decide
    (first | lia | omega)
  refine call_meets F.slot_list_extend ⟨_, ho, rfl⟩ F.entry_list_extend (F.args_list_extend_2 _ _) (AutoSeq1.list_extend_list_list_0 a us.toArray k d ws.toArray k2 ?_ (by rw [e1]; exact Nat.le_trans hz (by decide)) e3) ⟨ho, ho2, ?_⟩
  · rw [e1, e2]
    unfold Builtin.List.listTooLong
    have : sizeLine = 16777216 := by decide
    have : decide (l.length + m.length > sizeLine) = false := by rw [decide_eq_false_iff_not]; (first | lia | omega)
    rw [this, Bool.and_false]; exact Bool.false_ne_true
  obtain ⟨k', hk'⟩ := mapSeq_list (xs := us.toArray) (k := k) (f := fun x => x ++ ws.toArray)
  have ho' := Heap.get?_update_self (Obj.mapSeq fun x => x ++ ws.toArray) ho rfl
  rw [hk'] at ho'
  show CPost c X s σ Q .none _
  refine CPost.upd (tk := s.toks) (b := .list (l ++ m)) S (fun x o e z => (Heap.get?_update_other _ _ (Ne.symm z)).trans e) (.inl (some_ne hs)) (fun st => ⟨us ++ ws, k', by rw [ho']; simp, (rl.stay st).append (rm2.stay st)⟩) (fun st => Rep.none) q
theorem Ev.bm {o : PySem.Expr} {es : List PySem.Expr} {name : Str} {apos pos : Pos} {T id : String} {a : Addr} {Q : PV → Sto → Prop} (ho : De c n env ρ σ o (.at a)) (hT : (T = "list" ∧ ∃ l, σ a = some (.list l)) ∨ (T = "dict" ∧ ∃ ks l, σ a = some (.dict ks l)))
    (h : Es c n env es ρ σ fun as σ₁ => Ca c n (.builtin id) (.at a :: as) σ₁ Q) (f1 : PlainAttrs T) (f2 : Slot T name id) (f3 : typeOf (.builtin id) = pure (.type "method_descriptor"))
    (h1 : attributeBase o name env (eval o env) = eval o env := by rfl)
    (h2 : ((((backTo pos (starEach es env)).all fun x => !x.fst) && (backToKw pos (keywordEach [] env)).all fun x => x.fst.isSome) && decide ((es.length + ([] : List Keyword).length + if ([] : List Keyword).isEmpty = true then 0 else 1) < 30)) = true := by rfl)
    (h3 : (apos.endLine == pos.line) = true := by rfl) (hp : (backTo pos (starEach es env)).any (·.1) = false := by rfl) (ha : es = [] ∨ ∃ e r, es = e :: r ∧ starEach (e :: r) env = (false, eval e env) :: starEach r env := by first | exact .inl rfl | exact .inr ⟨_, _, rfl, rfl⟩) :
    Ev c n env ((o.Attribute name apos).Call es [] pos) ρ σ Q := fun A X s rm S R => by
  refine wpAny_Call_method h1 h2 h3 f1 f2 f3 (Ev.then ho rm S R fun v s₁ pv σ₁ rv S₁ R₁ x₁ e => ?_)
  obtain ⟨rfl, rfl⟩ := e
  have := rv.at_inv
  subst this
  have hobj : ∃ ob, s₁.heap.get? a = some ob ∧ ob.cls = .type T ∧ ob.dict = none := by
    rcases hT with ⟨rfl, l, hl⟩ | ⟨rfl, ks, l, hl⟩
    · obtain ⟨us, k, ho, _⟩ := (S₁.gs a _ hl).2
      exact ⟨_, ho, rfl, rfl⟩
    · obtain ⟨_, xs, ⟨ob, _, _, ho, hc, _⟩, _⟩ := (S₁.gs a _ hl).2
      exact ⟨ob, ho, hc.1, hc.2.1⟩
  obtain ⟨ob, ho1, hc1, hd1⟩ := hobj
  refine ⟨⟨ob, ho1, hc1⟩, fun b e => by cases e; exact ⟨ob, ho1, hd1⟩, ?_⟩
  refine Calls.callWith_builtin hp (args_any ha ?_)
  refine wpAny_mono (h A X s₁ pos rm S₁ R₁) (fun us s₂ ⟨as, σ₂, ra, S₂, R₂, x₂, q⟩ => ?_) fun _ _ x => x
  have x₁₂ := x₁.trans x₂ S₁ R.ok.own
  refine wpAny_mono (q A X s₂ (.ref a :: us) rm S₂ (Reps.cons Rep.at ra)) (fun v s₃ ⟨pv, σ₃, r₃, S₃, x₃, q₃⟩ => ?_) fun _ _ x => x
  exact ⟨pv, σ₃, r₃, S₃, R₂.step S₂ x₃, x₁₂.trans (x₃.mono nof_own) S₂ R.ok.own, q₃⟩
end
section
variable {prog : Program} {w : World} {A : Around} {E : Value → Shared → Prop} {s : Shared}
theorem setItem_plain {l : Addr} {us : List Value} {m : Nat} {j : Nat} {t : Tok} {v : Value} {Q : Unit → Shared → Prop} (ho : s.heap.get? l = some (PySem.W.listOf us.toArray m)) (hj : j < us.length) (hz : us.length ≤ 1000000)
    (hQ : ∀ h' m', h'.get? l = some (PySem.W.listOf (us.set j v).toArray m') → Heap.SameBut l s.heap h' → Q () { s with heap := h' }) : wpAny (model prog w) A (setItem (.ref l) (.int (j : Int) t) v) Q E s := by
  have hl : s.heap.IsList l us.toArray := isList_of ho
  have hd : (PySem.W.listOf us.toArray m).data = .seq us.toArray m := rfl
  have hf : (j : Int) < 2 ^ 63 := by have h1 : (2 : Int) ^ 63 = 9223372036854775808 := by decide
                                     (first | lia | omega)
  have hfit := fitsIndex_of (k := (j : Int)) (Int.natCast_nonneg _) hf
  clear hf hz
  obtain ⟨k, hk⟩ : ∃ k : Int, k = (j : Int) := ⟨_, rfl⟩
  rw [← hk] at hfit ⊢
  unfold setItem
  try with_reducible refine wpAny_holding ?_
  first | refine wpAny_bind (wpAny_pure ?_) | skip
  refine wpAny_bind (wpAny_sequenceKey hl.typeIs (by decide) ?_)
  refine wpAny_bind (wpAny_callSpecial?_slot (name := Str.ofString "__setitem__") hl.typeIs slot_list_setitem (wpAny_call_entry slot_list_setitem hl.typeIs entry_list_setitem ?_ (args_list_setitem _ _ _)))
  show wpAny _ _ (Builtin.List.listSubscript? (.int k t) >>= _) _ _ s
  refine wpAny_bind (wpAny_listSubscript_int hfit ?_)
  clear hfit
  subst hk
  have hx' : us.toArray[j]? = some us[j] := by simp [hj]
  have hjs : j < us.toArray.size := by simpa using hj
  show wpAny _ _ ((seqItemAt l j >>= fun r => pure (r.map (j, ·))) >>= _) _ _ s
  refine wpAny_bind (wpAny_bind (wpAny_seqItemAt ho hd (wpAny_pure ?_)))
  rw [hx']
  show wpAny _ _ (setSeqItemAt l j v >>= _) _ _ s
  refine wpAny_bind (wpAny_setSeqItemAt ho hd ?_)
  obtain ⟨m', hm'⟩ := mapSeq_list (xs := us.toArray) (k := m) (f := (·.setIfInBounds j v))
  have ho' := Heap.get?_update_self (Obj.mapSeq (·.setIfInBounds j v)) ho rfl
  rw [hm'] at ho'
  have hus : us.toArray.setIfInBounds j v = (us.set j v).toArray := by simp
  rw [hus] at ho'
  first
    | exact wpAny_bind (wpAny_pure (wpAny_pure ⟨.none, rfl, wpAny_pure (hQ _ _ ho' (Heap.SameBut.update ..))⟩))
    | exact wpAny_pure ⟨.none, rfl, wpAny_pure (hQ _ _ ho' (Heap.SameBut.update ..))⟩
end
section
variable {prog : Program} {w : World} {K : Frag} {c : Cx prog w K} {n : Nat} {env : Env} {ρ ρ' : List (Option PV)} {σ : Sto}
theorem drop_upd {σ : Sto} {a : Addr} {b : Box} (h : σ a = none) : (σ.upd a b).drop a = σ := by
  funext x
  unfold Sto.drop Sto.upd
  by_cases hx : x = a
  · subst hx; simp [h]
  · simp [hx]
theorem upd_self {σ : Sto} {a : Addr} {b : Box} : (σ.upd a b) a = some b := if_pos rfl
theorem upd_ne {σ : Sto} {a x : Addr} {b : Box} (h : x ≠ a) : (σ.upd a b) x = σ x := if_neg h
theorem upd_upd {σ : Sto} {a : Addr} {b b' : Box} : (σ.upd a b).upd a b' = σ.upd a b' := by
  funext x
  unfold Sto.upd
  by_cases hx : x = a <;> simp [hx]
theorem nbad_of {G : Heap} {X : Addr → Prop} {h : Heap} {σ : Sto} {a : Addr} {b : Box} (S : Sat prog w G X h σ) (e : σ a = some b) : ¬ Bad X (σ.drop a) a := fun z => by
  rcases z with z | z
  · have := (S.gx a z).1; rw [e] at this; cases this
  · exact z (by unfold Sto.drop; simp)
theorem freeze_list {G : Heap} {X : Addr → Prop} {h : Heap} {σ : Sto} {a : Addr} {l : List PV} (S : Sat prog w G X h σ) (e : σ a = some (.list l)) : Rep prog w h (Bad X (σ.drop a)) (.lst l) (.ref a) := by
  obtain ⟨us, k, ho, rl⟩ := (S.gs a _ e).2
  simp only [Rep]
  exact ⟨a, us, k, rfl, nbad_of S e, ho, rl.stay (stay_sub (sub_drop σ a))⟩
theorem freeze_dict {G : Heap} {X : Addr → Prop} {h : Heap} {σ : Sto} {a : Addr} {ks : List (List Int)} {l : List PV} (S : Sat prog w G X h σ) (e : σ a = some (.dict ks l)) : Rep prog w h (Bad X (σ.drop a)) (.dct ks l) (.ref a) := by
  obtain ⟨hsm, xs, ho, hx, hk, rl⟩ := (S.gs a _ e).2
  simp only [Rep]
  exact ⟨a, xs, rfl, nbad_of S e, hsm, ho, fun x hx' z => hx x hx' (bad_sub (sub_drop σ a) z), hk, rl.stay (stay_sub (sub_drop σ a))⟩
inductive Frz (σ : Sto) : PV → PV → Sto → Prop
  | same (p : PV) : Frz σ p p σ
  | sub (p : PV) (σ' : Sto) : Sub σ' σ → Frz σ p p σ'
  | list (a : Addr) (l : List PV) : σ a = some (.list l) → Frz σ (.at a) (.lst l) (σ.drop a)
  | dict (a : Addr) (ks : List (List Int)) (l : List PV) : σ a = some (.dict ks l) → Frz σ (.at a) (.dct ks l) (σ.drop a)
theorem Frz.subs {σ σ' : Sto} {p p' : PV} (f : Frz σ p p' σ') : Sub σ' σ := by
  cases f with
  | same => exact Sub.refl σ
  | sub _ _ h => exact h
  | list a l h => exact sub_drop σ a
  | dict a ks l h => exact sub_drop σ a
theorem Frz.rep {G : Heap} {X : Addr → Prop} {h : Heap} {σ σ' : Sto} {p p' : PV} {v : Value} (f : Frz σ p p' σ') (S : Sat prog w G X h σ) (r : Rep prog w h (Bad X σ) p v) : Rep prog w h (Bad X σ') p' v := by
  cases f with
  | same => exact r
  | sub _ _ h => exact r.stay (stay_sub h)
  | list a l h => rw [r.at_inv]; exact freeze_list S h
  | dict a ks l h => rw [r.at_inv]; exact freeze_dict S h
theorem Ca.frz {f : Value} {l : List PV} {Q : PV → Sto → Prop} (h : Ca c n f l σ fun p σ' => ∃ p' σ'', Frz σ' p p' σ'' ∧ Q p' σ'') : Ca c n f l σ Q := fun A X s vs rm S rv =>
  wpAny_mono (h A X s vs rm S rv) (fun v s' ⟨p, σ', r, S', x, p', σ'', fz, q⟩ => ⟨p', σ'', fz.rep S' r, S'.sub fz.subs, x.sub fz.subs, q⟩) fun _ _ x => x
theorem Ev.frz {e : PySem.Expr} {Q : PV → Sto → Prop} (h : Ev c n env e ρ σ fun p σ' => ∃ p' σ'', Frz σ' p p' σ'' ∧ Q p' σ'') : Ev c n env e ρ σ Q := fun A X s rm S R =>
  wpAny_mono (h A X s rm S R) (fun v s' ⟨p, σ', r, S', R', x, p', σ'', fz, q⟩ => ⟨p', σ'', fz.rep S' r, S'.sub fz.subs, R'.sub fz.subs, x.sub fz.subs, q⟩) fun _ _ x => x
theorem Xs.frz {ss : List Stmt} {i : Nat} {p' : PV} {p : PV} {σ' : Sto} {Q : FV → List (Option PV) → Sto → Prop} (hi : ρ[i]? = some (some p)) (f : Frz σ p p' σ') (h : Xs c n env ss (ρ.set i (some p')) σ' Q) : Xs c n env ss ρ σ Q := fun A X s rm S R => by
  have R' : LRep prog w env X s.heap (Bad X σ') (ρ.set i (some p')) := by
    obtain ⟨m, hm, hv⟩ := R.ns
    refine ⟨R.ok, ⟨m, hm, fun j x k pv hj hp => ?_⟩, R.cl⟩
    by_cases hji : j = i
    · subst hji
      obtain ⟨v, r, hh⟩ := hv j x k p hj hi
      have hl : j < ρ.length := (List.getElem?_eq_some_iff.mp hi).1
      rw [List.getElem?_set_self hl] at hp
      cases hp
      exact ⟨v, f.rep S r, hh⟩
    · rw [List.getElem?_set_ne (fun e => hji e.symm)] at hp
      obtain ⟨v, r, hh⟩ := hv j x k pv hj hp
      exact ⟨v, r.stay (stay_sub f.subs), hh⟩
  exact wpAny_mono (h A X s rm (S.sub f.subs) R') (fun fl s' ⟨fv, ρ', σ'', rf, S', R'', x, q⟩ => by
    have x0 : Step (Own env) s σ s σ' := (Step.refl _ s σ).sub f.subs
    exact ⟨fv, ρ', σ'', rf, S', R'', x0.trans x (S.sub f.subs) R.ok.own, q⟩) fun _ _ x => x
theorem isKey_ints : ∀ (ts : List (Int × Tok)), ItemsAre (intKind prog w) (ts.map (·.1)) (ts.map fun p => Value.int p.1 p.2)
  | [] => ItemsAre.nil
  | (i, t) :: r => ItemsAre.cons (by show Value.isInt i (.int i t) = true; simp [Value.isInt]) (isKey_ints r)
theorem rep_key {h : Heap} {bad : Addr → Prop} {k : List Int} {v : Value} (r : Rep prog w h bad (.tup (intsP k)) v) : ∃ a, v = .ref a ∧ ¬ bad a ∧ (kd prog w).is h k a := by
  obtain ⟨a, vs, rfl, hb, ⟨o, ho, hc, m, hd⟩, rl⟩ := r.tup_inv
  obtain ⟨ts, rfl, rfl⟩ := reps_ints rl
  exact ⟨a, rfl, hb, o, _, m, ho, hc, hd, by simpa using isKey_ints ts⟩
noncomputable def DV (σ : Sto) (p : PV) (ks : List (List Int)) (l : List PV) : Prop := p = .dct ks l ∨ ∃ a, p = .at a ∧ σ a = some (.dict ks l)
theorem DV.inv {G : Heap} {X : Addr → Prop} {h : Heap} {p : PV} {ks : List (List Int)} {l : List PV} {v : Value} (d : DV σ p ks l) (S : Sat prog w G X h σ) (r : Rep prog w h (Bad X σ) p v) :
    ∃ a xs, v = .ref a ∧ (a == sysModules) = false ∧ h.DictOfH (kd prog w) a xs ∧ xs.map (·.1) = ks ∧ Reps prog w h (Bad X σ) l (xs.map (·.2.2)) := by
  rcases d with rfl | ⟨a, rfl, e⟩
  · obtain ⟨a, xs, rfl, _, hsm, ho, _, hk, rl⟩ := r.dct_inv
    exact ⟨a, xs, rfl, hsm, ho, hk, rl⟩
  · rw [r.at_inv]
    obtain ⟨hsm, xs, ho, _, hk, rl⟩ := (S.gs a _ e).2
    exact ⟨a, xs, rfl, hsm, ho, hk, rl⟩
theorem dict_at {h : Heap} {a : Addr} {xs : List (List Int × Addr × Value)} {bad : Addr → Prop} {l : List PV} {j : Nat} {k : List Int} {p : PV} (ho : h.DictOfH (kd prog w) a xs) (rl : Reps prog w h bad l (xs.map (·.2.2))) (hk : (xs.map (·.1))[j]? = some k) (hp : l[j]? = some p) :
    ∃ q, atKey xs k = some q ∧ Rep prog w h bad p q.2 := by
  obtain ⟨v, hv, rv⟩ := rl.get hp
  rw [List.getElem?_map, Option.map_eq_some_iff] at hk hv
  obtain ⟨x, hx, rfl⟩ := hk
  obtain ⟨y, hy, rfl⟩ := hv
  rw [hx] at hy; cases hy
  obtain ⟨_, _, _, _, _, _, _, _, hn⟩ := ho
  exact ⟨x.2, atKey_of_get hn hx, rv⟩
theorem De.dictGet {v i : PySem.Expr} {pos : Pos} {d : PV} {ks : List (List Int)} {l : List PV} {k : List Int} {j : Nat} {p : PV} (hv : De c n env ρ σ v d) (hi : De c n env ρ σ i (.tup (intsP k))) (hd : DV σ d ks l) (hk : ks[j]? = some k) (hp : l[j]? = some p)
    (hs : ∀ a b, subscripted i false (.ref a) (.ref b) = operate [.ref a, .ref b] (getItem (.ref a) (.ref b)) := by intro _ _; rfl) (ht : ∀ o r, letTemporaryGo v o r = pure () := by intro _ _; rfl) : De c n env ρ σ (.Subscript v i pos) p := fun A X s rm S R =>
  Subscript_ (two hv hi rm S R fun u z s' ru rz S' R' => by
    obtain ⟨a, xs, rfl, hsm, ho, rfl, rl⟩ := hd.inv S' ru
    obtain ⟨b, rfl, hb, hkey⟩ := rep_key rz
    obtain ⟨q, hq, rq⟩ := dict_at ho rl hk hp
    refine subscriptTail_builtin ho.typeIs F.slot_dict_getitem.lookup ?_ (hs a b) (ht _)
    exact wpAny_getItem_heap (knd := kd prog w) (show A.in1.units < cLine from by have := rm.units; have e : cLine = 9900 := rfl; show A.units + 1 < cLine; omega) hkey ho hq (EPost.now (tk := s'.toks + (kd prog w).draws k) S' R' rq ⟨rfl, rfl⟩))
end
section
variable {prog : Program} {w : World} {K : Frag} {c : Cx prog w K} {n : Nat} {env : Env} {ρ ρ' : List (Option PV)} {σ : Sto}
noncomputable def CmpTo (c : Cx prog w K) (n : Nat) (σ : Sto) (op : CmpOp) (p q : PV) (b : Bool) : Prop :=
  ∀ A X s v u (P : Value → Shared → Prop), Room n A → Sat prog w c.G X s.heap σ → Rep prog w s.heap (Bad X σ) p v → Rep prog w s.heap (Bad X σ) q u → P (.bool b) s → wpAny (model prog w) A (compareOp op v u) P NoE s
theorem De.cmpBy {l r : PySem.Expr} {op : CmpOp} {pos : Pos} {p q : PV} {b : Bool} (hl : De c n env ρ σ l p) (hr : De c n env ρ σ r q) (h : CmpTo c n σ op p q b) (hb : behindInMarks op r = false := by rfl) : De c n env ρ σ (.Compare l [op] [r] pos) (.bool b) := fun A X s rm S R =>
  wpAny_Compare1 (two hl hr rm S R fun v u s' rv ru S' R' => h A X s' v u _ rm S' rv ru (EPost.same S' R' Rep.bool ⟨rfl, rfl⟩)) hb
theorem Dt.cmpBy {l r : PySem.Expr} {op : CmpOp} {pos : Pos} {p q : PV} {b : Bool} (hl : De c n env ρ σ l p) (hr : De c n env ρ σ r q) (h : CmpTo c n σ op p q b) (hb : behindInMarks op r = false := by rfl) : Dt c n env ρ σ (.Compare l [op] [r] pos) b := fun A X s rm S R => by
  refine wpAny_isTrue_Compare1 (Ev.then hl rm S R fun v s₁ pv σ₁ rv S₁ R₁ x₁ e => ?_) hb
  obtain ⟨rfl, rfl⟩ := e
  refine Ev.then hr rm S₁ R₁ fun u s₂ pu σ₂ ru S₂ R₂ x₂ e => ?_
  obtain ⟨rfl, rfl⟩ := e
  exact h A X s₂ v u _ rm S₂ (rv.stay (x₂.stay R₁.ok.own)) ru (wpAny_truthy_bool ⟨_, S₂, R₂, x₁.trans x₂ S₁ R.ok.own, rfl, rfl⟩)
theorem Room.u64 {A : Around} (r : Room n A) : A.units + 64 < cLine := by have := r.units; have e : cLine = 9900 := rfl; omega
theorem reads_ints' {h : Heap} : ∀ (ts : List (Int × Tok)), ∃ as, ReadsAll h (ts.map fun p => Value.int p.1 p.2) ((ts.map (·.1)).map .int) as
  | [] => ⟨[], ReadsAll.nil⟩
  | (i, t) :: r => let ⟨as, q⟩ := reads_ints' (h := h) r; ⟨_, ReadsAll.cons (Reads.int i t) q⟩
theorem reads_tup {h : Heap} {bad : Addr → Prop} {k : List Int} {v : Value} (r : Rep prog w h bad (.tup (intsP k)) v) : ∃ as, Reads h v (.tuple (k.map .int)) as := by
  obtain ⟨a, vs, rfl, hb, ⟨o, ho, hc, m, hd⟩, rl⟩ := r.tup_inv
  obtain ⟨ts, rfl, rfl⟩ := reps_ints rl
  obtain ⟨as, q⟩ := reads_ints' (h := h) ts
  exact ⟨_, Reads.tuple ho hc hd (by simpa using q)⟩
theorem canLay_ints : ∀ (k : List Int), PyData.canLayAll0 (k.map .int) = true
  | [] => rfl
  | _ :: r => by rw [List.map_cons, PyData.canLayAll0, canLay_ints r]; rfl
theorem eqv_pair (a b d e : Int) : PyData.eqv (.tuple ([a, b].map .int)) (.tuple ([d, e].map .int)) = decide ([a, b] = [d, e]) := by
  simp [PyData.eqv, PyData.eqvAll]
  rfl
theorem CmpTo.eqPair {a b d e : Int} : CmpTo c n σ .Eq (.tup (intsP [a, b])) (.tup (intsP [d, e])) (decide ([a, b] = [d, e])) := fun A X s v u P rm S rv ru q => by
  obtain ⟨as, r1⟩ := reads_tup rv
  obtain ⟨bs, r2⟩ := reads_tup ru
  refine SeqAt.compareEq_reads r1 r2 (canLay_ints _) (canLay_ints _) ?_ (by rw [eqv_pair]; exact q)
  have := rm.u64
  have h1 : (PyData.tuple ([a, b].map .int)).depth ≤ 64 := by simp [PyData.depth, PyData.depthAll]
  (first | lia | omega)
theorem CmpTo.nePair {a b d e : Int} : CmpTo c n σ .NotEq (.tup (intsP [a, b])) (.tup (intsP [d, e])) (!decide ([a, b] = [d, e])) := fun A X s v u P rm S rv ru q => by
  obtain ⟨as, r1⟩ := reads_tup rv
  obtain ⟨bs, r2⟩ := reads_tup ru
  refine SeqAt.compareNe_reads r1 r2 (canLay_ints _) (canLay_ints _) ?_ (by rw [eqv_pair]; exact q)
  have := rm.u64
  have h1 : (PyData.tuple ([a, b].map .int)).depth ≤ 64 := by simp [PyData.depth, PyData.depthAll]
  (first | lia | omega)
noncomputable def LV (σ : Sto) (p : PV) (l : List PV) : Prop := p = .lst l ∨ ∃ a, p = .at a ∧ σ a = some (.list l)
theorem LV.inv {G : Heap} {X : Addr → Prop} {h : Heap} {p : PV} {l : List PV} {v : Value} (d : LV σ p l) (S : Sat prog w G X h σ) (r : Rep prog w h (Bad X σ) p v) : ∃ a us k, v = .ref a ∧ h.get? a = some (PySem.W.listOf us.toArray k) ∧ Reps prog w h (Bad X σ) l us := by
  rcases d with rfl | ⟨a, rfl, e⟩
  · obtain ⟨a, us, k, rfl, _, ho, rl⟩ := r.lst_inv
    exact ⟨a, us, k, rfl, ho, rl⟩
  · rw [r.at_inv]
    obtain ⟨us, k, ho, rl⟩ := (S.gs a _ e).2
    exact ⟨a, us, k, rfl, ho, rl⟩
theorem CmpTo.eqNil {p : PV} {l : List PV} (d : LV σ p l) : CmpTo c n σ .Eq p (.lst []) l.isEmpty := fun A X s v u P rm S rv ru q => by
  obtain ⟨a, us, k, rfl, ho, rl⟩ := d.inv S rv
  obtain ⟨b, ws, k', rfl, _, ho', rl'⟩ := ru.lst_inv
  simp only [Reps] at rl'
  subst rl'
  cases l with
  | nil =>
    simp only [Reps] at rl
    subst rl
    exact SeqAt.compareEq_reads (Reads.list ho rfl rfl ReadsAll.nil) (Reads.list ho' rfl rfl ReadsAll.nil) rfl rfl (by have := rm.u64; simp [PyData.depth, PyData.depthAll]; (first | lia | omega)) (by simpa [PyData.eqv, PyData.eqvAll] using q)
  | cons x l =>
    have hl := rl.length
    refine SeqAt.eq_list_lengthsAt (isList_of ho) (isList_of ho') ?_ (by have := rm.u64; (first | lia | omega)) q
    simp [hl]
noncomputable def SameD (ks : List (List Int)) (l : List (List Int)) (ks' : List (List Int)) (l' : List (List Int)) : Prop := ks.length = ks'.length ∧ l.length = ks.length ∧ l'.length = ks'.length ∧ ∀ (j : Nat) k t, ks[j]? = some k → l[j]? = some t → ∃ i : Nat, ks'[i]? = some k ∧ l'[i]? = some t
theorem same_hits {G : Heap} {X : Addr → Prop} {s : Shared} {p q : PV} {ks ks' l l' : List (List Int)} {v u : Value} (hd : DV σ p ks (l.map fun t => .tup (intsP t))) (hd' : DV σ q ks' (l'.map fun t => .tup (intsP t))) (hs : SameD ks l ks' l') (S : Sat prog w G X s.heap σ) (rv : Rep prog w s.heap (Bad X σ) p v) (ru : Rep prog w s.heap (Bad X σ) q u) :
    ∃ a b xs ys, v = .ref a ∧ u = .ref b ∧ (a == sysModules) = false ∧ (b == sysModules) = false ∧ s.heap.DictOfH (kd prog w) a xs ∧ s.heap.DictOfH (kd prog w) b ys ∧ xs.length = ys.length ∧
      ∀ x ∈ xs, ∃ p t v u, atKey ys x.1 = some p ∧ x.2.2 = .ref v ∧ p.2 = .ref u ∧ (kd prog w).is s.heap t v ∧ (kd prog w).is s.heap t u := by
  obtain ⟨a, xs, rfl, ha, da, rfl, ra⟩ := hd.inv S rv
  obtain ⟨b, ys, rfl, hb, db, rfl, rb⟩ := hd'.inv S ru
  refine ⟨a, b, xs, ys, rfl, rfl, ha, hb, da, db, by simpa using hs.1, fun x hx => ?_⟩
  obtain ⟨j, hj⟩ := List.mem_iff_getElem?.mp hx
  have hjx : j < xs.length := (List.getElem?_eq_some_iff.mp hj).1
  have hjl : j < l.length := by have := hs.2.1; simp at this; (first | lia | omega)
  have hk : (xs.map (·.1))[j]? = some x.1 := by rw [List.getElem?_map, hj]; rfl
  obtain ⟨i, hi, hi'⟩ := hs.2.2.2 j x.1 l[j] hk (List.getElem?_eq_getElem hjl)
  obtain ⟨q1, hq1, rq1⟩ := dict_at (p := .tup (intsP l[j])) da ra hk (by rw [List.getElem?_map, List.getElem?_eq_getElem hjl]; rfl)
  obtain ⟨q2, hq2, rq2⟩ := dict_at (p := .tup (intsP l[j])) db rb hi (by rw [List.getElem?_map, hi']; rfl)
  obtain ⟨_, _, _, _, _, _, _, _, hn⟩ := id da
  have e1 := atKey_of_get (k := x.1) (p := x.2) hn hj
  rw [e1] at hq1
  cases hq1
  obtain ⟨v, hv, _, kv⟩ := rep_key rq1
  obtain ⟨u, hu, _, ku⟩ := rep_key rq2
  exact ⟨q2, l[j], v, u, hq2, hv, hu, kv, ku⟩
theorem CmpTo.eqDict {p q : PV} {ks ks' l l' : List (List Int)} (hd : DV σ p ks (l.map fun t => .tup (intsP t))) (hd' : DV σ q ks' (l'.map fun t => .tup (intsP t))) (hs : SameD ks l ks' l') : CmpTo c n σ .Eq p q true := fun A X s v u P rm S rv ru k => by
  obtain ⟨a, b, xs, ys, rfl, rfl, ha, hb, da, db, hl, hv⟩ := same_hits hd hd' hs S rv ru
  exact dict_eq (by have := rm.u64; (first | lia | omega)) ha hb da db hl hv k
theorem CmpTo.neDict {p q : PV} {ks ks' l l' : List (List Int)} (hd : DV σ p ks (l.map fun t => .tup (intsP t))) (hd' : DV σ q ks' (l'.map fun t => .tup (intsP t))) (hs : SameD ks l ks' l') : CmpTo c n σ .NotEq p q false := fun A X s v u P rm S rv ru k => by
  obtain ⟨a, b, xs, ys, rfl, rfl, ha, hb, da, db, hl, hv⟩ := same_hits hd hd' hs S rv ru
  exact dict_ne (by have := rm.u64; (first | lia | omega)) ha hb da db hl hv k
end
section
variable {prog : Program} {w : World} {K : Frag} {c : Cx prog w K} {n : Nat} {env : Env} {ρ ρ' : List (Option PV)} {σ : Sto}
theorem De.addT {l r : PySem.Expr} {pos : Pos} {p q : List PV} (hl : De c n env ρ σ l (.tup p)) (hr : De c n env ρ σ r (.tup q)) (h1 : p ≠ []) (h2 : q ≠ []) (hz : p.length + q.length ≤ 1000000) : De c n env ρ σ (.BinOp l .Add r pos) (.tup (p ++ q)) := fun A X s rm S R =>
  wpAny_BinOp (two hl hr rm S R fun v u s' rv ru S' R' => by
    obtain ⟨a, vs, rfl, _, ht, r1⟩ := rv.tup_inv
    obtain ⟨b, ws, rfl, _, ht', r2⟩ := ru.tup_inv
    obtain ⟨⟨cls, dd, data, sl⟩, ho, hc, k, hd⟩ := ht
    obtain ⟨⟨cls2, dd2, data2, sl2⟩, ho', hc2, k', hd2⟩ := ht'
    simp only at hc hd hc2 hd2
    subst hc hd hc2 hd2
    have l1 := r1.length
    have l2 := r2.length
    have hv : vs ≠ [] := fun e => h1 (List.length_eq_zero_iff.mp (by rw [← l1, e]; rfl))
    have hw : ws ≠ [] := fun e => h2 (List.length_eq_zero_iff.mp (by rw [← l2, e]; rfl))
    have hsz : vs.toArray.size + ws.toArray.size ≤ sizeLine := by
      have : sizeLine = 16777216 := by decide
      simp; (first | lia | omega)
    have e : vs.toArray ++ ws.toArray = (vs ++ ws).toArray := by simp
    refine concat_meets ⟨_, ho, rfl⟩ ⟨_, ho', rfl⟩ noFill_tuple_add seq_tuple_add PySem.F.slot_tuple_add PySem.F.entry_tuple_add (PySem.F.args_tuple_add_2 _ _) (tuple_addW2 a b vs.toArray ws.toArray k k' dd dd2 sl sl2 (by simpa using hv) (by simpa using hw) hsz) ⟨ho, ho', ?_⟩
    rw [e]
    refine EPost.grown (tk := s'.toks) S' R' (push_stays _ _) ?_ ⟨rfl, rfl⟩
    simp only [Rep]
    have st := stay_ext (bad := Bad X σ) (push_stays s'.heap { cls := .type "tuple", data := .seq (vs ++ ws).toArray })
    exact ⟨_, vs ++ ws, rfl, good_new S', ⟨_, Heap.get?_push_size _ rfl, rfl, 0, rfl⟩, (r1.stay st).append (r2.stay st)⟩)
theorem Ev.mulAt {l r : PySem.Expr} {pos : Pos} {p : PV} {i : Int} {Q : PV → Sto → Prop} (hl : De c n env ρ σ l (.lst [p])) (hr : De c n env ρ σ r (.int i)) (h0 : 0 ≤ i) (h1 : i ≤ 1000000) (q : ∀ a, σ a = none → Q (.at a) (σ.upd a (.list (List.replicate i.toNat p)))) : Ev c n env (.BinOp l .Mult r pos) ρ σ Q := fun A X s rm S R =>
  wpAny_BinOp (two hl hr rm S R fun v u s' rv ru S' R' => by
    obtain ⟨a, vs, k, rfl, _, ho, r1⟩ := rv.lst_inv
    obtain ⟨t, rfl⟩ := ru.int_inv
    simp only [Reps] at r1
    obtain ⟨y, _, rfl, ry, rfl⟩ := r1
    refine wpAny_binaryOp_repeat_ref (T := "list") (U := "int") (by decide) ⟨_, ho, rfl⟩ (fun s' => typeIs_int s' i t) noFill_list_mul F.fills_int_mul F.slot_int_rmul repeat_list F.slot_int_index.lookup
      (call_meets F.slot_int_rmul (typeIs_int s' i t) F.entry_int_rmul (F.args_int_rmul_2 _ _) (lm_int_rmul_list_any i t a [y].toArray k none #[])
        ⟨ho, rfl, ⟨_, ho, rfl⟩, call_meets F.slot_list_mul ⟨_, ho, rfl⟩ F.entry_list_mul (F.args_list_mul_2 _ _)
          (lm_list_mul_any a [y].toArray k none #[] i t (by simp [Builtin.List.listFitsIndex]; (first | lia | omega)) (by simp; (first | lia | omega)) (by simp [Builtin.List.listTooLong, sizeLine]; (first | lia | omega)))
          ⟨ho, ?_⟩⟩)
    have e : List.foldl (fun x1 x2 => x1 ++ x2) #[] (List.replicate (if ([y].toArray).isEmpty = true then 0 else i.toNat) [y].toArray) = (List.replicate i.toNat y).toArray := by
      rw [listMul_foldl_if, lm_rep_flat_one]
    rw [e]
    have hk : ∀ x o, s'.heap.get? x = some o → x ≠ s'.heap.objs.size → (s'.heap.push { cls := .type "list", data := .seq (List.replicate i.toNat y).toArray }).get? x = some o := fun x o e _ => push_stays _ _ x o e
    have hn : σ s'.heap.objs.size ≠ none ∨ s'.heap.get? s'.heap.objs.size = none := .inr (size_none _)
    have st := stay_upd (X := X) (b := .list (List.replicate i.toNat p)) hk hn
    have rr : ∀ m, Reps prog w (s'.heap.push { cls := .type "list", data := .seq (List.replicate i.toNat y).toArray }) (Bad X (σ.upd s'.heap.objs.size (.list (List.replicate i.toNat p)))) (List.replicate m p) (List.replicate m y) := fun m => by
      induction m with
      | zero => exact Reps.nil
      | succ m ih => exact Reps.cons (ry.stay st) ih
    exact ⟨_, _, Rep.at, S'.upd (b := .list (List.replicate i.toNat p)) hk hn ⟨List.replicate i.toNat y, 0, Heap.get?_push_size _ rfl, rr _⟩, R'.stay st fun a o _ e => push_stays _ _ a o e, step_upd hk hn, q _ (fresh_sto S' (size_none _))⟩)
end
section
variable {prog : Program} {w : World} {A : Around} {E : Value → Shared → Prop} {s : Shared}
theorem adjust_to (b n : Nat) (hb : b ≤ n) : Builtin.Slice.sliceAdjust none (some (b : Int)) 1 (n : Int) = (0, (b : Int)) := by
  unfold Builtin.Slice.sliceAdjust
  have h1 : ¬ ((1 : Int) < 0) := by (first | lia | omega)
  have h2 : ¬ ((b : Int) < 0) := by (first | lia | omega)
  simp only [h1, h2, if_false]
  congr 1
  (first | lia | omega)
theorem places_to (b : Nat) : Builtin.Slice.slicePlaces 0 (b : Int) 1 = b := by
  unfold Builtin.Slice.slicePlaces
  have h1 : (1 : Int) > 0 := by (first | lia | omega)
  simp only [h1, if_true, Int.ediv_one]
  split <;> (first | lia | omega)
theorem sliceApplied_to {sl : Addr} {b n : Nat} {u : Tok} {Q : Int × Int × Nat → Shared → Prop} (hs : s.heap.IsSliceOf sl .none (.int b u) .none) (hb : b ≤ n) (h : Q (0, 1, b) s) : wpAny (model prog w) A (Builtin.Slice.sliceApplied (.ref sl) (pure (n : Int))) Q E s := by
  obtain ⟨os, hos, hcs, hds⟩ := id hs
  unfold Builtin.Slice.sliceApplied Builtin.Slice.sliceFields
  refine wpAny_bind (wpAny_bind (wpAny_field hos hds (x := .none) rfl (wpAny_bind (wpAny_field hos hds (x := .int b u) rfl (wpAny_bind (wpAny_field hos hds (x := .none) rfl (wpAny_pure ?_)))))))
  refine wpAny_bind (slicePart_none ?_)
  show wpAny _ _ (if ((1 : Int) == 0) = true then _ else _) _ _ s
  rw [if_neg (by decide)]
  refine wpAny_bind (slicePart_none (wpAny_bind (slicePart_int (wpAny_bind (wpAny_pure ?_)))))
  show wpAny _ _ (match Builtin.Slice.sliceAdjust none (some (b : Int)) 1 (n : Int) with | (lo, hi) => pure (lo, (1 : Int), Builtin.Slice.slicePlaces lo hi 1)) _ _ s
  rw [adjust_to b n hb]
  show wpAny _ _ (pure ((0 : Int), (1 : Int), Builtin.Slice.slicePlaces 0 (b : Int) 1)) _ _ s
  rw [places_to b]
  exact wpAny_pure h
theorem pick_to (xs : Array Value) (b : Nat) : ((List.range b).filterMap fun (k : Nat) => xs[((0 : Int) + (k : Int) * 1).toNat]?).toArray = (xs.toList.take b).toArray := by
  have e : (fun (k : Nat) => xs[((0 : Int) + (k : Int) * 1).toNat]?) = fun k => xs[0 + k]? := by
    funext k
    have : ((0 : Int) + (k : Int) * 1).toNat = 0 + k := by (first | lia | omega)
    rw [this]
  rw [e]
  have := pick_run xs 0 b
  rw [List.filterMap_map] at this
  have e2 : ((fun x => xs[x]?) ∘ fun x => 0 + x) = fun k => xs[0 + k]? := rfl
  rw [e2] at this
  rw [this, List.drop_zero]
theorem getItem_tuple_to {t sl : Addr} {items : Array Value} {b : Nat} {u : Tok} {Q : Value → Shared → Prop} (ht : IsTup s.heap t items) (hs : s.heap.IsSliceOf sl .none (.int b u) .none) (hb : b < items.size) (hsz : items.size ≤ sizeLine)
    (h : Q (.ref s.heap.objs.size) { s with heap := s.heap.push { cls := .type "tuple", data := .seq (items.toList.take b).toArray } }) : wpAny (model prog w) A (getItem (.ref t) (.ref sl)) Q E s := by
  have htake : sizeOk (.seq (items.toList.take b).toArray) := by
    show (items.toList.take b).toArray.size ≤ sizeLine
    rw [List.size_toArray, List.length_take, Array.length_toList]
    (first | lia | omega)
  obtain ⟨os, hos, hcs, hds⟩ := id hs
  have hTs : s.TypeIs (.ref sl) "slice" := ⟨os, hos, hcs⟩
  unfold getItem
  try with_reducible refine wpAny_holding ?_
  first | refine wpAny_bind (wpAny_pure ?_) | skip
  refine wpAny_bind (wpAny_sequenceKey ht.typeIs (by decide) ?_)
  refine wpAny_bind (wpAny_callSpecial?_slot (name := Str.ofString "__getitem__") ht.typeIs slot_tuple_getitem (wpAny_call_entry slot_tuple_getitem ht.typeIs entry_tuple_getitem ?_ (args_tuple_getitem _ _)))
  show wpAny _ _ (Builtin.Tuple.tupleItemsOf (.ref t) >>= _) _ _ s
  refine wpAny_bind (tupleItemsOf_ ht ?_)
  refine wpAny_bind (wpAny_typeOf hTs ?_)
  rw [if_pos (by decide)]
  refine wpAny_bind (sliceApplied_to hs (Nat.le_of_lt hb) ?_)
  have hno : ¬ (((0 : Int) == 0 && (1 : Int) == 1 && b == items.size) = true) := by
    have : (b == items.size) = false := by rw [beq_eq_false_iff_ne]; (first | lia | omega)
    rw [this]; simp
  show wpAny _ _ (if ((0 : Int) == 0 && (1 : Int) == 1 && b == items.size) = true then _ else _) _ _ s
  rw [if_neg hno, pick_to items b]
  first
    | exact wpAny_bind (m := Builtin.Tuple.tupleExact _) (wpAny_newObj_type (wpAny_pure ⟨_, rfl, wpAny_pure h⟩) htake)
    | exact wpAny_bind (m := Builtin.Tuple.tupleExact _) (wpAny_newObj_type (wpAny_bind (wpAny_pure (wpAny_pure ⟨_, rfl, wpAny_pure h⟩))) htake)
    | exact wpAny_bind (wpAny_bind (m := Builtin.Tuple.tupleExact _) (wpAny_newObj_type (wpAny_pure (wpAny_pure ⟨_, rfl, wpAny_pure h⟩)) htake))
    | exact wpAny_bind (wpAny_bind (m := Builtin.Tuple.tupleExact _) (wpAny_newObj_type (wpAny_pure ⟨_, rfl, wpAny_pure h⟩) htake))
end
section
variable {prog : Program} {w : World} {K : Frag} {c : Cx prog w K} {n : Nat} {env : Env} {ρ ρ' : List (Option PV)} {σ : Sto}
theorem De.sliceFrom {v : PySem.Expr} {k : Nat} {pos p2 p3 : Pos} {a : Nat} {l : List PV} (hv : De c n env ρ σ v (.tup l)) (h1 : 1 ≤ a) (h2 : a ≤ l.length) (hz : l.length ≤ 1000000)
    (ht : ∀ o r, letTemporaryGo v o r = pure () := by intro _ _; rfl) : De c n env ρ σ (.Subscript v (.Slice (some (.Constant (.int (a : Int)) k p2)) none none p3) pos) (.tup (l.drop a)) := fun A X s rm S R => by
  refine wpAny_Subscript_Slice (T := "tuple") slot_tuple_getitem.lookup (Ev.then hv rm S R fun u s₁ p σ₁ ru S₁ R₁ x₁ e => wpAny_Slice ?_) ht
  obtain ⟨rfl, rfl⟩ := e
  obtain ⟨t, vs, rfl, hb, hT, rl⟩ := ru.tup_inv
  refine wpAny_Constant_int (k := k) (pos := p2) ?_
  refine wpAny_pure (wpAny_pure ?_)
  have hlen := rl.length
  have hT' : IsTup (s₁.heap.push { cls := .type "slice", data := .fields #[.int (a : Int) s₁.toks, .none, .none] }) t vs.toArray := (isTup_of hT).keeps fun _ _ e => Heap.get?_push_of_some _ e
  refine ⟨hT'.typeIs, getItem_tuple_from hT' (Heap.IsSliceOf.new ..) h1 (by simp; (first | lia | omega)) ?_ (by rw [List.size_toArray]; exact Nat.le_trans (by (first | lia | omega) : vs.length ≤ 1000000) (by decide))⟩
  have hk : s₁.heap.StaysIn ((s₁.heap.push { cls := .type "slice", data := .fields #[.int (a : Int) s₁.toks, .none, .none] }).push { cls := .type "tuple", data := .seq (vs.toArray.toList.drop a).toArray }) := fun _ _ e => Heap.get?_push_of_some _ (Heap.get?_push_of_some _ e)
  refine EPost.after x₁ S₁ R.ok (EPost.grown (tk := s₁.toks + 1) S₁ R₁ hk ?_ ⟨rfl, rfl⟩)
  simp only [Rep]
  exact ⟨_, vs.drop a, rfl, good_new (S₁.ext (push_stays _ _)), ⟨_, Heap.get?_push_size _ rfl, rfl, 0, rfl⟩, Reps.drop a (rl.stay (stay_ext hk))⟩
theorem De.sliceTo {v : PySem.Expr} {k : Nat} {pos p2 p3 : Pos} {b : Nat} {l : List PV} (hv : De c n env ρ σ v (.tup l)) (h2 : b < l.length) (hz : l.length ≤ 1000000)
    (ht : ∀ o r, letTemporaryGo v o r = pure () := by intro _ _; rfl) : De c n env ρ σ (.Subscript v (.Slice none (some (.Constant (.int (b : Int)) k p2)) none p3) pos) (.tup (l.take b)) := fun A X s rm S R => by
  refine wpAny_Subscript_Slice (T := "tuple") slot_tuple_getitem.lookup (Ev.then hv rm S R fun u s₁ p σ₁ ru S₁ R₁ x₁ e => wpAny_Slice ?_) ht
  obtain ⟨rfl, rfl⟩ := e
  obtain ⟨t, vs, rfl, hb, hT, rl⟩ := ru.tup_inv
  refine wpAny_pure (wpAny_Constant_int (k := k) (pos := p2) (wpAny_pure ?_))
  have hlen := rl.length
  have hT' : IsTup (s₁.heap.push { cls := .type "slice", data := .fields #[.none, .int (b : Int) s₁.toks, .none] }) t vs.toArray := (isTup_of hT).keeps fun _ _ e => Heap.get?_push_of_some _ e
  refine ⟨hT'.typeIs, getItem_tuple_to hT' (Heap.IsSliceOf.new ..) (by simp; (first | lia | omega)) (by rw [List.size_toArray]; exact Nat.le_trans (by (first | lia | omega) : vs.length ≤ 1000000) (by decide)) ?_⟩
  have hk : s₁.heap.StaysIn ((s₁.heap.push { cls := .type "slice", data := .fields #[.none, .int (b : Int) s₁.toks, .none] }).push { cls := .type "tuple", data := .seq (vs.toArray.toList.take b).toArray }) := fun _ _ e => Heap.get?_push_of_some _ (Heap.get?_push_of_some _ e)
  refine EPost.after x₁ S₁ R.ok (EPost.grown (tk := s₁.toks + 1) S₁ R₁ hk ?_ ⟨rfl, rfl⟩)
  simp only [Rep]
  exact ⟨_, vs.take b, rfl, good_new (S₁.ext (push_stays _ _)), ⟨_, Heap.get?_push_size _ rfl, rfl, 0, rfl⟩, Reps.take b (rl.stay (stay_ext hk))⟩
end
section
variable {prog : Program} {w : World} {K : Frag} {c : Cx prog w K} {n : Nat} {env : Env} {ρ ρ' : List (Option PV)} {σ : Sto}
theorem nX_of {G : Heap} {X : Addr → Prop} {h : Heap} {σ : Sto} {a : Addr} (S : Sat prog w G X h σ) (hn : σ a ≠ none ∨ h.get? a = none) {b : Addr} (hb : X b) : b ≠ a := fun e => by
  subst e
  rcases hn with hn | hn
  · exact hn (S.gx b hb).1
  · obtain ⟨o, ho⟩ := (S.gx b hb).2.2; rw [hn] at ho; cases ho
theorem box_upd {X : Addr → Prop} {s : Shared} {h' : Heap} {tk : Nat} {a : Addr} {b : Box} (S : Sat prog w c.G X s.heap σ) (R : LRep prog w env X s.heap (Bad X σ) ρ) (hk : ∀ x o, s.heap.get? x = some o → x ≠ a → h'.get? x = some o) (hn : σ a ≠ none ∨ s.heap.get? a = none)
    (hb : Stay s.heap (Bad X σ) h' (Bad X (σ.upd a b)) → BoxRep prog w h' (Bad X (σ.upd a b)) a b) : Sat prog w c.G X h' (σ.upd a b) ∧ LRep prog w env X h' (Bad X (σ.upd a b)) ρ ∧ Step (Own env) s σ { s with heap := h', toks := tk } (σ.upd a b) ∧ Stay s.heap (Bad X σ) h' (Bad X (σ.upd a b)) :=
  have st := stay_upd (X := X) (b := b) hk hn
  ⟨S.upd hk hn (hb st), R.stay st fun x o hx e => hk x o e (nX_of S hn hx), step_upd hk hn, st⟩
theorem Ex.setList {o i e : PySem.Expr} {spos pos : Pos} {Q : FV → List (Option PV) → Sto → Prop}
    (h : Ev c n env e ρ σ fun p σ₁ => ∃ a l, ∃ j : Nat, De c n env ρ σ₁ o (.at a) ∧ De c n env ρ σ₁ i (.int (j : Int)) ∧ σ₁ a = some (.list l) ∧ j < l.length ∧ l.length ≤ 1000000 ∧ Q .next ρ (σ₁.upd a (.list (l.set j p))))
    (hs : swapsWith e (some (.Subscript o i spos)) pos.line env = pure false := by rfl) : Ex c n env (.Assign [.Subscript o i spos] e pos) ρ σ Q := fun A X s rm S R => by
  refine wpAny_Assign_Subscript (Ev.then h rm S R fun v s₁ p σ₁ rv S₁ R₁ x₁ q => ?_) hs
  obtain ⟨a, l, j, ho, hi, ha, hj, hz, q⟩ := q
  refine Ev.then ho rm S₁ R₁ fun ov s₂ pv σ₂ r2 S₂ R₂ x₂ e => ?_
  obtain ⟨rfl, rfl⟩ := e
  refine Ev.then hi rm S₂ R₂ fun iv s₃ pv σ₃ r3 S₃ R₃ x₃ e => ?_
  obtain ⟨rfl, rfl⟩ := e
  have := r2.at_inv
  subst this
  obtain ⟨t, rfl⟩ := r3.int_inv
  have rv₃ := (rv.stay (x₂.stay R.ok.own)).stay (x₃.stay R.ok.own)
  have x₁₃ := (x₁.trans x₂ S₁ R.ok.own).trans x₃ S₂ R.ok.own
  obtain ⟨us, m, ho3, rl⟩ := (S₃.gs a _ ha).2
  have hlen := rl.length
  refine setItem_plain ho3 (by (first | lia | omega)) (by (first | lia | omega)) fun h' m' ho' hs' => ?_
  obtain ⟨S₄, R₄, x₄, st⟩ := box_upd (tk := s₃.toks) (b := .list (l.set j p)) S₃ R₃ (fun x o e z => hs'.extBut x o z e) (.inl (some_ne ha)) (fun st => ⟨us.set j v, m', ho', (rl.stay st).set j (rv₃.stay st)⟩)
  exact ⟨.next, ρ, _, rfl, S₄, R₄, x₁₃.trans x₄ S₃ R.ok.own, q⟩
theorem fresh_ne_sys {h : Heap} (c : Cx prog w K) (g : c.G.StaysIn h) : (h.objs.size == sysModules) = false := by
  obtain ⟨x, hx, o, ho⟩ := c.big
  have := Heap.lt_size (g x o ho)
  rw [beq_eq_false_iff_ne]
  exact Nat.ne_of_gt (Nat.lt_trans hx this)
theorem Ev.dict0 {pos : Pos} {Q : PV → Sto → Prop} (q : ∀ a, σ a = none → Q (.at a) (σ.upd a (.dict [] []))) : Ev c n env (.Dict [] [] pos) ρ σ Q := fun A X s rm S R => by
  refine wpAny_Dict_empty ?_
  obtain ⟨S₄, R₄, x₄, st⟩ := box_upd (tk := s.toks) (a := s.heap.objs.size) (b := .dict [] []) (h' := s.heap.push { cls := .type "dict", data := .dict #[] }) S R (fun x o e z => push_stays _ _ x o e) (.inr (size_none _)) (fun st => ⟨fresh_ne_sys c S.gr, [], Heap.DictOfH.new s.heap, (fun x hx => nomatch hx), rfl, Reps.nil⟩)
  exact ⟨_, _, Rep.at, S₄, R₄, x₄, q _ (fresh_sto S (size_none _))⟩
theorem Ex.setDict {o i e : PySem.Expr} {spos pos : Pos} {Q : FV → List (Option PV) → Sto → Prop}
    (h : Ev c n env e ρ σ fun p σ₁ => ∃ a ks l k, De c n env ρ σ₁ o (.at a) ∧ De c n env ρ σ₁ i (.tup (intsP k)) ∧ σ₁ a = some (.dict ks l) ∧ k ∉ ks ∧ ks.length ≤ 1000000 ∧ Q .next ρ (σ₁.upd a (.dict (ks ++ [k]) (l ++ [p]))))
    (hs : swapsWith e (some (.Subscript o i spos)) pos.line env = pure false := by rfl) : Ex c n env (.Assign [.Subscript o i spos] e pos) ρ σ Q := fun A X s rm S R => by
  refine wpAny_Assign_Subscript (Ev.then h rm S R fun v s₁ p σ₁ rv S₁ R₁ x₁ q => ?_) hs
  obtain ⟨a, ks, l, k, ho, hi, ha, hk, hz, q⟩ := q
  refine Ev.then ho rm S₁ R₁ fun ov s₂ pv σ₂ r2 S₂ R₂ x₂ e => ?_
  obtain ⟨rfl, rfl⟩ := e
  refine Ev.then hi rm S₂ R₂ fun iv s₃ pv σ₃ r3 S₃ R₃ x₃ e => ?_
  obtain ⟨rfl, rfl⟩ := e
  have := r2.at_inv
  subst this
  have rv₃ := (rv.stay (x₂.stay R.ok.own)).stay (x₃.stay R.ok.own)
  have x₁₃ := (x₁.trans x₂ S₁ R.ok.own).trans x₃ S₂ R.ok.own
  obtain ⟨b, rfl, hb, hkey⟩ := rep_key r3
  obtain ⟨hsm, xs, hD, hxb, rfl, rl⟩ := (S₃.gs a _ ha).2
  have hz2 : xs.length ≤ sizeLine := by
    have : sizeLine = 16777216 := by decide
    simp at hz; (first | lia | omega)
  have hnew : atKey xs k = none := atKey_none_of_get fun j q e => hk (List.mem_map.mpr ⟨(k, q), List.mem_of_getElem? e, rfl⟩)
  refine wpAny_setItem_heap (knd := kd prog w) (show A.in1.units < cLine from by have := rm.u64; show A.units + 1 < cLine; (first | lia | omega)) hkey hD (fun h' hD' hs' => ?_) hz2
  rw [storedH_new hnew] at hD'
  have hbad : ∀ st : Stay s₃.heap (Bad X σ₃) h' (Bad X (σ₃.upd a (.dict (xs.map (·.1) ++ [k]) (l ++ [p])))), ∀ x ∈ xs ++ [(k, b, v)], ¬ Bad X (σ₃.upd a (.dict (xs.map (·.1) ++ [k]) (l ++ [p]))) x.2.1 := fun st x hx => by
    rcases List.mem_append.mp hx with hx | hx
    · obtain ⟨_, _, _, _, _, _, _, his, _⟩ := hD
      obtain ⟨ot, _, _, hot, _⟩ := his x hx
      exact st.good _ _ hot (hxb x hx)
    · simp only [List.mem_singleton] at hx
      subst hx
      obtain ⟨ot, _, _, hot, _⟩ := hkey
      exact st.good _ _ hot hb
  obtain ⟨S₄, R₄, x₄, st⟩ := box_upd (tk := s₃.toks + (kd prog w).draws k) (b := .dict (xs.map (·.1) ++ [k]) (l ++ [p])) S₃ R₃ (fun x o e z => hs'.extBut x o z e) (.inl (some_ne ha)) (fun st => ⟨hsm, _, hD', hbad st, by simp, by rw [List.map_append]; exact (rl.stay st).append (Reps.cons (rv₃.stay st) Reps.nil)⟩)
  exact ⟨.next, ρ, _, rfl, S₄, R₄, x₁₃.trans x₄ S₃ R.ok.own, q⟩
end
section
variable {prog : Program} {w : World} {K : Frag} {c : Cx prog w K} {n : Nat} {env : Env} {ρ ρ' : List (Option PV)} {σ : Sto}
noncomputable def pairsP (ks : List (List Int)) (l : List PV) : List PV := List.zipWith (fun k p => .tup [.tup (intsP k), p]) ks l
theorem reps_pairs {h : Heap} {bad : Addr → Prop} : ∀ {ks : List (List Int)} {l : List PV} {vs : List Value}, ks.length = l.length → Reps prog w h bad (pairsP ks l) vs →
    ∃ P, PairList prog w h vs P ∧ P.map (·.1) = ks ∧ Reps prog w h bad l (P.map (·.2.2)) ∧ ∀ x ∈ P, ¬ bad x.2.1
  | [], [], vs, _, r => by
    simp only [pairsP, List.zipWith, Reps] at r
    subst r
    exact ⟨[], ⟨rfl, fun j t e => by simp at e⟩, rfl, Reps.nil, (fun x hx => nomatch hx)⟩
  | [], _ :: _, _, e, _ => by simp at e
  | _ :: _, [], _, e, _ => by simp at e
  | k :: ks, p :: l, vs, e, r => by
    have r' : Reps prog w h bad (.tup [.tup (intsP k), p] :: pairsP ks l) vs := r
    simp only [Reps] at r'
    obtain ⟨v, us, rfl, r1, r2⟩ := r'
    obtain ⟨P, ⟨hl, hP⟩, hk, rl, hb⟩ := reps_pairs (ks := ks) (l := l) (by simpa using e) r2
    obtain ⟨a, ws, rfl, _, ht, rw⟩ := r1.tup_inv
    simp only [Reps] at rw
    obtain ⟨v1, _, rfl, q1, v2, _, rfl, q2, rfl⟩ := rw
    obtain ⟨b, rfl, hbb, hkey⟩ := rep_key q1
    refine ⟨(k, b, v2) :: P, ⟨by simp [hl], fun j t e => ?_⟩, by simp [hk], Reps.cons q2 rl, fun x hx => ?_⟩
    · cases j with
      | zero => simp only [List.getElem?_cons_zero, Option.some.injEq] at e; subst e; exact ⟨a, rfl, ht, hkey⟩
      | succ j => simp only [List.getElem?_cons_succ] at e ⊢; exact hP j t e
    · rcases List.mem_cons.mp hx with rfl | hx
      · exact hbb
      · exact hb x hx
theorem Ca.dictOf {ks : List (List Int)} {l : List PV} {Q : PV → Sto → Prop} (hl : ks.length = l.length) (hz : ks.length ≤ 100000) (hnd : ks.Nodup) (q : ∀ a, σ a = none → Q (.at a) (σ.upd a (.dict ks l))) : Ca c n (.type "dict") [.lst (pairsP ks l)] σ Q := fun A X s vs rm S rv => by
  obtain ⟨v, rfl, r⟩ := one_arg rv
  obtain ⟨a, us, m, rfl, hb, ho, rl⟩ := r.lst_inv
  obtain ⟨P, hP, rfl, rP, hbad⟩ := reps_pairs hl rl
  have hz' : P.length ≤ sizeLine := by
    have : sizeLine = 16777216 := by decide
    simp at hz; (first | lia | omega)
  refine call_dict_pairs rm.handled (by have := rm.u64; (first | lia | omega)) ho hP hnd hz' fun h' tk hD hk => ?_
  have hks : s.heap.StaysIn h' := hk
  have hbad' : ∀ st : Stay s.heap (Bad X σ) h' (Bad X (σ.upd s.heap.objs.size (.dict (P.map (·.1)) l))), ∀ x ∈ P, ¬ Bad X (σ.upd s.heap.objs.size (.dict (P.map (·.1)) l)) x.2.1 := fun st x hx => by
    obtain ⟨j, hj⟩ := List.mem_iff_getElem?.mp hx
    obtain ⟨_, _, _, ⟨ot, _, _, hot, _⟩⟩ := hP.2 j x hj
    exact st.good _ _ hot (hbad x hx)
  exact CPost.upd (b := .dict (P.map (·.1)) l) S (fun x o e _ => hk x o e) (.inr (size_none _)) (fun st => ⟨fresh_ne_sys c S.gr, P, hD, hbad' st, rfl, rP.stay st⟩) (fun st => Rep.at) (q _ (fresh_sto S (size_none _)))
theorem Ca.update {a : Addr} {p : PV} {ks ks' : List (List Int)} {l l' : List PV} {Q : PV → Sto → Prop} (ha : σ a = some (.dict ks l)) (hd : p = .dct ks' l') (hne : ks ≠ []) (hnd : (ks ++ ks').Nodup) (hz : ks.length + ks'.length ≤ 100000) (q : Q .none (σ.upd a (.dict (ks ++ ks') (l ++ l')))) : Ca c n (.builtin "dict.update") [.at a, p] σ Q := fun A X s vs rm S rv => by
  obtain ⟨v, u, rfl, r1, r2⟩ := two_args rv
  have := r1.at_inv
  subst this
  subst hd
  obtain ⟨hsm, xs, hD, hxb, rfl, rl⟩ := (S.gs a _ ha).2
  obtain ⟨b, ys, rfl, hb, hsm', hD', hyb, rfl, rl'⟩ := r2.dct_inv
  have hab : a ≠ b := fun e => hb (.inr (by rw [← e, ha]; exact fun z => nomatch z))
  have hx : xs ≠ [] := fun e => hne (by rw [e]; rfl)
  have hz' : xs.length + ys.length ≤ sizeLine := by
    have : sizeLine = 16777216 := by decide
    simp at hz; (first | lia | omega)
  refine wpAny_call_entry F.slot_dict_update hD.typeIs F.entry_dict_update ?_ (F.args_dict_update_2 _ _)
  unfold Builtin.«dict.update»
  refine wpAny_bind ?_
  unfold Builtin.Dict.selfAndRest
  refine wpAny_bind (wpAny_notOrdered_dict hD.typeIs ?_)
  show wpAny _ _ (pure (a, [Value.ref b])) _ _ _
  refine wpAny_pure ?_
  show wpAny _ _ (Builtin.Dict.updateFrom "dict.update" a (.ref b) [] .none) _ _ _
  unfold Builtin.Dict.updateFrom
  refine wpAny_bind (wpAny_typeOf hD'.typeIs ?_)
  rw [if_neg (by decide)]
  refine wpAny_bind ?_
  unfold Builtin.Dict.merge
  refine wpAny_bind ?_
  unfold Builtin.Dict.readDirectly
  refine wpAny_bind (wpAny_isInstance hD'.typeIs isSubtype_dict_dict ?_)
  simp only [Bool.not_true, Bool.false_eq_true, if_false]
  refine wpAny_bind (wpAny_specialOf hD'.typeIs F.slot_dict_iter.lookup (wpAny_pure ?_))
  simp only [beq_self_eq_true, if_true]
  refine wpAny_bind (wpAny_pure ?_)
  refine merge_apart (show A.in1.units < cLine from by have := rm.u64; show A.units + 1 < cLine; (first | lia | omega)) hab hsm' hD hD' hx hnd hz' fun h' hM hs' => ?_
  show wpAny _ _ (Builtin.Dict.addKeywords a [] >>= _) _ _ _
  refine wpAny_bind (wpAny_pure (wpAny_pure ⟨_, rfl, ?_⟩))
  have hbad : ∀ st : Stay s.heap (Bad X σ) h' (Bad X (σ.upd a (.dict (xs.map (·.1) ++ ys.map (·.1)) (l ++ l')))), ∀ x ∈ xs ++ ys, ¬ Bad X (σ.upd a (.dict (xs.map (·.1) ++ ys.map (·.1)) (l ++ l'))) x.2.1 := fun st x hx => by
    rcases List.mem_append.mp hx with hx | hx
    · obtain ⟨_, _, _, _, _, _, _, his, _⟩ := hD
      obtain ⟨ot, _, _, hot, _⟩ := his x hx
      exact st.good _ _ hot (hxb x hx)
    · obtain ⟨_, _, _, _, _, _, _, his, _⟩ := hD'
      obtain ⟨ot, _, _, hot, _⟩ := his x hx
      exact st.good _ _ hot (hyb x hx)
  exact CPost.upd (tk := s.toks) (b := .dict (xs.map (·.1) ++ ys.map (·.1)) (l ++ l')) S (fun x o e z => hs'.extBut x o z e) (.inl (some_ne ha)) (fun st => ⟨hsm, _, hM, hbad st, by simp, by rw [List.map_append]; exact (rl.stay st).append (rl'.stay st)⟩) (fun st => Rep.none) q
theorem Ca.tupleA {a : Addr} {l : List PV} {Q : PV → Sto → Prop} (ha : σ a = some (.list l)) (hz : l.length ≤ 1000000) (q : Q (.tup l) σ) : Ca c n (.type "tuple") [.at a] σ Q := fun A X s vs rm S rv => by
  obtain ⟨v, rfl, r⟩ := one_arg rv
  have := r.at_inv
  subst this
  obtain ⟨us, k, ho, rl⟩ := (S.gs a _ ha).2
  have hz' : us.toArray.size ≤ sizeLine := by
    have : us.toArray.size = l.length := by rw [← rl.length]; simp
    rw [this]; exact Nat.le_trans hz (by decide)
  refine call_tuple_list (isList_of ho) (fun h' hk => ?_) hz'
  have hk' : s.heap.StaysIn (h'.push { cls := .type "tuple", data := .seq us.toArray }) := fun b o e => Heap.get?_push_of_some _ (hk b o e)
  refine CPost.grown (tk := s.toks) S hk' ?_ q
  simp only [Rep]
  have S' := S.ext (fun b o e => hk b o e)
  exact ⟨_, us, rfl, good_new S', ⟨_, Heap.get?_push_size _ rfl, rfl, 0, rfl⟩, rl.stay (stay_ext hk')⟩
theorem Dc.tupleT {l : List PV} : Dc c n (.type "tuple") [.tup l] σ (.tup l) := fun A X s vs rm S rv => by
  obtain ⟨v, rfl, r⟩ := one_arg rv
  obtain ⟨a, us, rfl, _, ht, _⟩ := id r.tup_inv
  exact call_tuple_tup (isTup_of ht) (CPost.now (tk := s.toks) S r ⟨rfl, rfl⟩)
end
section
variable {prog : Program} {w : World} {K : Frag} {c : Cx prog w K} {n : Nat} {env : Env} {ρ ρ' : List (Option PV)} {σ : Sto}
theorem Ev.listZip {es : List PySem.Expr} {i i' : Nat} {fp fp' pos pos' : Pos} {Q : PV → Sto → Prop} (hi : env.scope.names[i]? = some (("list" : Str), .globalImplicit)) (hg : nsIn K mainGlobals "list" = some none)
    (hi' : env.scope.names[i']? = some (("zip" : Str), .globalImplicit)) (hg' : nsIn K mainGlobals "zip" = some none)
    (hes : Es c n env es ρ σ fun ps σ₁ => ∃ p p' l l', ps = [p, p'] ∧ (p = .lst l ∨ p = .tup l) ∧ (p' = .lst l' ∨ p' = .tup l') ∧ l.length ≤ 100000 ∧ ∀ a, σ₁ a = none → Q (.at a) (σ₁.upd a (.list (zipped l l'))))
    (ho : ArgsOk es env pos := by exact ⟨rfl, .inr ⟨_, _, rfl, rfl⟩⟩)
    (ho' : ArgsOk [.Call (.Name "zip" fp) es [] pos] env pos' := by exact ⟨rfl, .inr ⟨_, _, rfl, rfl⟩⟩) :
    Ev c n env (.Call (.Name "list" fp') [.Call (.Name "zip" fp) es [] pos] [] pos') ρ σ Q := fun A X s rm S R => by
  refine wpAny_Call_ofName (name_boot S R hi hg Boot.list (by decide) (by decide) ?_)
  refine PySem.callWith_type ho'.1 ?_
  refine args_any ho'.2 ?_
  show wpAny (model prog w) A (spliced (backTo pos' [(false, eval (.Call (.Name "zip" fp) es [] pos) env)])) _ _ s
  refine Calls.spliced_cons ?_
  refine bootT_then hi' hg' Boot.zip hes ho.1 ho.2 (by decide) (by decide) rm S R fun vs s₁ ps σ₁ rl S₁ R₁ x₁ q => ?_
  obtain ⟨p, p', l, l', rfl, hp, hp', hz, q⟩ := q
  simp only [Reps] at rl
  obtain ⟨v, _, rfl, r1, v', _, rfl, r2, rfl⟩ := rl
  obtain ⟨a, us, k1, o1, rfl, hb, hoa, sk, ra⟩ := seq_inv hp r1
  obtain ⟨a', us', k2, o2, rfl, hb', hoa', sk', ra'⟩ := seq_inv hp' r2
  have lt := Heap.lt_size hoa
  have lt' := Heap.lt_size hoa'
  have l1 := ra.length
  have l2 := ra'.length
  refine call_zip sk sk' fun h' st hk => Calls.spliced_nil ?_
  have D := zipApart_new lt lt'
  have fresh : ∀ j, s₁.heap.get? (s₁.heap.objs.size + j) = none := fun j => by
    cases q' : s₁.heap.get? (s₁.heap.objs.size + j) with
    | none => rfl
    | some o => exact absurd (Heap.lt_size q') (Nat.not_lt.mpr (Nat.le_add_right _ _))
  have hS0 : s₁.heap.get? h'.objs.size = none := by
    cases q' : s₁.heap.get? h'.objs.size with
    | none => rfl
    | some o => exact absurd (Heap.lt_size (hk _ _ q')) (Nat.lt_irrefl _)
  have hsz : min us.length us'.length ≤ sizeLine := by
    have : sizeLine = 16777216 := by decide
    (first | lia | omega)
  refine call_list_zip (s := { s₁ with heap := h' }) (h₀ := s₁.heap) rm.handled D hsz st ⟨_, hk _ _ hoa⟩ ⟨_, hk _ _ hoa'⟩ (fun b hb => ?_) (fun b o e => hk b o e) fun h'' acc m hS hlen hP hk' => ?_
  · simp only [List.mem_cons, List.not_mem_nil, or_false] at hb
    rcases hb with rfl | rfl | rfl | rfl | rfl
    · exact hS0
    · exact fresh 4
    · exact fresh 3
    · exact fresh 0
    · exact fresh 1
  · have st2 := stay_upd (X := X) (σ := σ₁) (b := .list (zipped l l')) (a := h'.objs.size) (fun x o e _ => hk' x o e) (.inr hS0)
    have rr : ∀ (m : Nat), Reps prog w h'' (Bad X (σ₁.upd h'.objs.size (.list (zipped l l')))) ((zipped l l').drop m) (acc.drop m) := by
      intro m
      generalize hd : (zipped l l').length - m = d
      induction d generalizing m with
      | zero =>
        have h1 : (zipped l l').drop m = [] := List.drop_eq_nil_iff.mpr (by (first | lia | omega))
        have h2 : acc.drop m = [] := List.drop_eq_nil_iff.mpr (by rw [zipped_length] at hd; (first | lia | omega))
        rw [h1, h2]; exact Reps.nil
      | succ d ih =>
        have hm : m < (zipped l l').length := by (first | lia | omega)
        have hm' : m < acc.length := by rw [zipped_length] at hm; (first | lia | omega)
        rw [List.drop_eq_getElem_cons hm, List.drop_eq_getElem_cons hm']
        refine Reps.cons ?_ (ih (m + 1) (by (first | lia | omega)))
        obtain ⟨x, y, hx, hy, e⟩ := zipped_get (List.getElem?_eq_getElem hm)
        obtain ⟨T, u, v, hT, hu, hv, hpair, hT0, hTW⟩ := hP m acc[m] (List.getElem?_eq_getElem hm')
        obtain ⟨u', hu', ru⟩ := ra.get hx
        obtain ⟨v', hv', rv⟩ := ra'.get hy
        rw [hu] at hu'; rw [hv] at hv'
        cases hu'; cases hv'
        rw [e, hT]
        simp only [Rep]
        refine ⟨T, [u, v], rfl, fun hbad => ?_, ⟨_, hpair, rfl, _, rfl⟩, Reps.cons (ru.stay st2) (Reps.cons (rv.stay st2) Reps.nil)⟩
        rcases hbad with z | z
        · obtain ⟨o, ho⟩ := (S₁.gx T z).2.2; rw [hT0] at ho; cases ho
        · have hne : T ≠ h'.objs.size := fun e => hTW (by rw [e]; exact List.mem_cons_self)
          rw [upd_ne hne] at z
          exact z (fresh_sto S₁ hT0)
    obtain ⟨S₄, R₄, x₄, st⟩ := box_upd (tk := s₁.toks) (a := h'.objs.size) (b := .list (zipped l l')) (h' := h'') S₁ R₁ (fun x o e z => hk' x o e) (.inr hS0) (fun st => ⟨acc, m, hS, rr 0⟩)
    exact ⟨_, _, Rep.at, S₄, R₄, x₁.trans x₄ S₁ R.ok.own, q _ (fresh_sto S₁ hS0)⟩
end
section
variable {K : Nat → Int} {cmp : Nat → Nat → (Bool → Shared → Prop) → Shared → Prop} {N : Nat} {s : Shared}
noncomputable def ByKey (K : Nat → Int) (N : Nat) (cmp : Nat → Nat → (Bool → Shared → Prop) → Shared → Prop) (s : Shared) : Prop := ∀ i j (C : Bool → Shared → Prop), i < N → j < N → C (decide (K i < K j)) s → cmp i j C s
noncomputable def PermN (p : Array Nat) (N : Nat) : Prop := p.Perm (List.range N).toArray
theorem PermN.size {p : Array Nat} (h : PermN p N) : p.size = N := by rw [h.size_eq]; simp
theorem PermN.lt {p : Array Nat} (h : PermN p N) {k : Nat} (hk : k < N) : p.getD k 0 < N := by
  have hs := h.size
  have : p.getD k 0 ∈ p := by rw [Array.getD_eq_getD_getElem?, Array.getElem?_eq_getElem (show k < p.size by rw [h.size]; exact hk), Option.getD_some]; exact Array.getElem_mem _
  have := (h.mem_iff).mp this
  simpa using this
noncomputable def Kf (K : Nat → Int) (p : Array Nat) (k : Nat) : Int := K (p.getD k 0)
theorem getD_of {p q : Array Nat} {i j : Nat} (h : p[i]? = q[j]?) : p.getD i 0 = q.getD j 0 := by rw [Array.getD_eq_getD_getElem?, Array.getD_eq_getD_getElem?, h]
theorem Kf_rev {p : Array Nat} {i j : Nat} (hj : j ≤ p.size) (k : Nat) : Kf K (kas_rev p i j) k = if i ≤ k ∧ k < j then Kf K p (i + j - 1 - k) else Kf K p k := by
  unfold Kf kas_rev
  have := getElem?_mirror_all (xs := p) (i := i) hj k
  split at this
  · rename_i h; rw [if_pos h, getD_of this]
  · rename_i h; rw [if_neg h, getD_of this]
theorem rev_perm {p : Array Nat} (h : PermN p N) (i j : Nat) : PermN (kas_rev p i j) N := (mirror_perm p i j _).trans h
noncomputable def Up (K : Nat → Int) (p : Array Nat) (m : Nat) : Prop := ∀ i j, i < j → j < m → Kf K p i ≤ Kf K p j
noncomputable def Down (K : Nat → Int) (p : Array Nat) (m : Nat) : Prop := ∀ i j, i < j → j < m → Kf K p j ≤ Kf K p i
theorem asc_ok (hc : ByKey K N cmp s) {p : Array Nat} (hp : PermN p N) {Q : Nat → Shared → Prop} : ∀ (f m : Nat), m + f = N → 1 ≤ m → Up K p m → (∀ m', m ≤ m' → m' ≤ N → Up K p m' → (m' = N ∨ (m' < N ∧ Kf K p m' < Kf K p (m' - 1))) → Q m' s) → (kas_asc p f m).kasWp cmp Q s
  | 0, m, hf, h1, hu, hq => hq m (Nat.le_refl _) (by (first | lia | omega)) hu (.inl (by (first | lia | omega)))
  | f + 1, m, hf, h1, hu, hq => by
    refine hc _ _ _ (hp.lt (by (first | lia | omega))) (hp.lt (by (first | lia | omega))) ?_
    by_cases h : K (p.getD m 0) < K (p.getD (m - 1) 0)
    · rw [decide_eq_true h]
      exact hq m (Nat.le_refl _) (by (first | lia | omega)) hu (.inr ⟨by (first | lia | omega), h⟩)
    · rw [decide_eq_false h]
      refine asc_ok hc hp f (m + 1) (by (first | lia | omega)) (by (first | lia | omega)) (fun i j hij hj => ?_) fun m' a b d e => hq m' (by (first | lia | omega)) b d e
      by_cases hjm : j < m
      · exact hu i j hij hjm
      · have : j = m := by (first | lia | omega)
        subst this
        have h2 : Kf K p (j - 1) ≤ Kf K p j := by unfold Kf; (first | lia | omega)
        by_cases hi : i = j - 1
        · rw [hi]; exact h2
        · exact Int.le_trans (hu i (j - 1) (by (first | lia | omega)) (by (first | lia | omega))) h2
structure Dn (K : Nat → Int) (N : Nat) (p : Array Nat) (n q : Nat) : Prop where
  pm : PermN p N
  dn : Down K p n
  lt : q < n
  le : n ≤ N
  eq : ∀ k, n - (q + 1) ≤ k → k < n → Kf K p k = Kf K p (n - 1)
theorem rev_equal {p : Array Nat} {i j : Nat} (hj : j ≤ p.size) (he : ∀ k, i ≤ k → k < j → Kf K p k = Kf K p (j - 1)) (k : Nat) : Kf K (kas_rev p i j) k = Kf K p k := by
  rw [Kf_rev hj]
  split
  · rename_i h
    rw [he _ (by omega) (by omega), he k h.1 h.2]
  · rfl
theorem one_eq {p : Array Nat} {n : Nat} : ∀ k, n + 1 - (0 + 1) ≤ k → k < n + 1 → Kf K p k = Kf K p (n + 1 - 1) := fun k h1 h2 => by
  have : k = n + 1 - 1 := by (first | lia | omega)
  rw [this]
theorem desc_ok (hc : ByKey K N cmp s) {Q : Array Nat × Nat × Nat → Shared → Prop} : ∀ (f : Nat) (p : Array Nat) (n q : Nat), n + f = N → Dn K N p n q → (∀ p' n' q', Dn K N p' n' q' → Q (p', n', q') s) → (kas_desc f p n q).kasWp cmp Q s
  | 0, p, n, q, hf, d, hq => hq p n q d
  | f + 1, p, n, q, hf, d, hq => by
    have hlt := d.lt
    refine hc _ _ _ (d.pm.lt (by (first | lia | omega))) (d.pm.lt (by (first | lia | omega))) ?_
    by_cases h : K (p.getD n 0) < K (p.getD (n - 1) 0)
    · rw [decide_eq_true h]
      simp only [if_true]
      have hn : Kf K p n < Kf K p (n - 1) := h
      have step : ∀ p', PermN p' N → (∀ k, Kf K p' k = Kf K p k) → Dn K N p' (n + 1) 0 := fun p' hp' he => ⟨hp', fun i j hij hj => by
        rw [he, he]
        by_cases hjn : j < n
        · exact d.dn i j hij hjn
        · have : j = n := by (first | lia | omega)
          subst this
          by_cases hi : i = j - 1
          · rw [hi]; (first | lia | omega)
          · have := d.dn i (j - 1) (by (first | lia | omega)) (by (first | lia | omega)); (first | lia | omega), by (first | lia | omega), by (first | lia | omega), one_eq⟩
      split
      · exact desc_ok hc f _ (n + 1) 0 (by (first | lia | omega)) (step _ (rev_perm d.pm _ _) (rev_equal (by rw [d.pm.size]; (first | lia | omega)) d.eq)) hq
      · exact desc_ok hc f p (n + 1) 0 (by (first | lia | omega)) (step p d.pm fun _ => rfl) hq
    · rw [decide_eq_false h]
      refine hc _ _ _ (d.pm.lt (by (first | lia | omega))) (d.pm.lt (by (first | lia | omega))) ?_
      by_cases h' : K (p.getD (n - 1) 0) < K (p.getD n 0)
      · rw [decide_eq_true h']
        exact hq p n q d
      · rw [decide_eq_false h']
        have hn : Kf K p n = Kf K p (n - 1) := by unfold Kf; (first | lia | omega)
        refine desc_ok hc f p (n + 1) (q + 1) (by (first | lia | omega)) ⟨d.pm, fun i j hij hj => ?_, by (first | lia | omega), by (first | lia | omega), fun k h1 h2 => ?_⟩ hq
        · by_cases hjn : j < n
          · exact d.dn i j hij hjn
          · have : j = n := by (first | lia | omega)
            subst this
            by_cases hi : i = j - 1
            · rw [hi]; (first | lia | omega)
            · have := d.dn i (j - 1) (by (first | lia | omega)) (by (first | lia | omega)); (first | lia | omega)
        · rw [show n + 1 - 1 = n by (first | lia | omega)]
          by_cases hk : k = n
          · rw [hk]
          · rw [d.eq k (by (first | lia | omega)) (by (first | lia | omega)), hn]
theorem tail3_ok (hc : ByKey K N cmp s) {Q : Nat × Array Nat → Shared → Prop} {n : Nat} {p : Array Nat} (hp : PermN p N) (h1 : 1 ≤ n) (hn : n ≤ N) (hd : Down K p n) (hq : ∀ m p', PermN p' N → n ≤ m → m ≤ N → Up K p' m → Q (m, p') s) : (kas_tail3 n N p).kasWp cmp Q s := by
  unfold kas_tail3
  rw [KasT.kasWp_bind]
  refine asc_ok hc (rev_perm hp _ _) (N - n) n (by omega) h1 (fun i j hij hj => ?_) fun m a b d _ => hq m _ (rev_perm hp _ _) a b d
  rw [Kf_rev (by rw [hp.size]; omega), Kf_rev (by rw [hp.size]; omega), if_pos ⟨by omega, by omega⟩, if_pos ⟨by omega, by omega⟩]
  exact hd _ _ (by omega) (by omega)
theorem descPart_ok (hc : ByKey K N cmp s) {Q : Nat × Array Nat → Shared → Prop} {n : Nat} {p : Array Nat} (hp : PermN p N) (hn : n + 1 ≤ N) (hd : Down K p (n + 1)) (hq : ∀ m p', PermN p' N → 1 ≤ m → m ≤ N → Up K p' m → Q (m, p') s) : (kas_descPart n N p).kasWp cmp Q s := by
  unfold kas_descPart
  rw [KasT.kasWp_bind]
  refine desc_ok hc (N - (n + 1)) p (n + 1) 0 (by omega) ⟨hp, hd, by omega, hn, one_eq⟩ fun p' n' q' d => ?_
  dsimp only
  have hlt := d.lt
  have hle := d.le
  split
  · have he := rev_equal (K := K) (p := p') (i := n' - (q' + 1)) (j := n') (by rw [d.pm.size]; omega) d.eq
    exact tail3_ok hc (rev_perm d.pm _ _) (by omega) d.le (fun i j hij hj => by rw [he, he]; exact d.dn i j hij hj) fun m p'' a b e f => hq m p'' a (by omega) e f
  · exact tail3_ok hc d.pm (by omega) d.le d.dn fun m p'' a b e f => hq m p'' a (by omega) e f
theorem count_ok (hc : ByKey K N cmp s) {Q : Nat × Array Nat → Shared → Prop} {p : Array Nat} (hp : PermN p N) (hN : 1 ≤ N) (hq : ∀ m p', PermN p' N → 1 ≤ m → m ≤ N → Up K p' m → Q (m, p') s) : (kas_count N p).kasWp cmp Q s := by
  unfold kas_count
  rw [KasT.kasWp_bind]
  refine asc_ok hc hp (N - 1) 1 (by (first | lia | omega)) (Nat.le_refl _) (fun i j hij hj => by (first | lia | omega)) fun n h1 h2 hu he => ?_
  by_cases hnN : (n == N) = true
  · rw [if_pos hnN]
    exact hq n p hp h1 h2 hu
  · rw [if_neg hnN]
    have hn : n ≠ N := fun e => hnN (by rw [e]; simp)
    have hend : Kf K p n < Kf K p (n - 1) := he.elim (fun e => absurd e hn) (fun e => e.2)
    have hlt : n < N := by (first | lia | omega)
    split
    · refine hc _ _ _ (hp.lt (by (first | lia | omega))) (hp.lt (by (first | lia | omega))) ?_
      by_cases h : K (p.getD 0 0) < K (p.getD (n - 1) 0)
      · rw [decide_eq_true h]
        exact hq n p hp h1 h2 hu
      · rw [decide_eq_false h]
        have hall : ∀ k, 0 ≤ k → k < n → Kf K p k = Kf K p (n - 1) := fun k _ hk => by
          have a : Kf K p (n - 1) ≤ Kf K p 0 := by unfold Kf; (first | lia | omega)
          have b : Kf K p 0 ≤ Kf K p k := by
            by_cases h0 : k = 0
            · rw [h0]; exact Int.le_refl _
            · exact hu 0 k (by (first | lia | omega)) hk
          have e : Kf K p k ≤ Kf K p (n - 1) := by
            by_cases h0 : k = n - 1
            · rw [h0]; exact Int.le_refl _
            · exact hu k (n - 1) (by (first | lia | omega)) (by (first | lia | omega))
          (first | lia | omega)
        have hr := rev_equal (K := K) (p := p) (i := 0) (j := n) (by rw [hp.size]; (first | lia | omega)) hall
        refine descPart_ok hc (rev_perm hp _ _) (by (first | lia | omega)) (fun i j hij hj => ?_) hq
        rw [hr, hr]
        by_cases hjn : j < n
        · rw [hall i (by (first | lia | omega)) (by (first | lia | omega)), hall j (by (first | lia | omega)) hjn]; exact Int.le_refl _
        · have : j = n := by (first | lia | omega)
          rw [this, hall i (by (first | lia | omega)) (by (first | lia | omega))]; (first | lia | omega)
    · have : n = 1 := by (first | lia | omega)
      subst this
      refine descPart_ok hc hp (by (first | lia | omega)) (fun i j hij hj => ?_) hq
      have hi : i = 0 := by (first | lia | omega)
      have hj' : j = 1 := by (first | lia | omega)
      subst hi; subst hj'
      have : Kf K p 1 < Kf K p (1 - 1) := hend
      rw [Nat.sub_self] at this
      (first | lia | omega)
theorem place_ok (hc : ByKey K N cmp s) {p : Array Nat} (hp : PermN p N) {k : Nat} (hk : k < N) {Q : Nat → Shared → Prop} : ∀ (f l r : Nat), r - l ≤ f → l ≤ r → r ≤ k → (∀ i, i < l → Kf K p i ≤ Kf K p k) → (∀ i, r ≤ i → i < k → Kf K p k ≤ Kf K p i) → Up K p k →
    (∀ l', l' ≤ k → (∀ i, i < l' → Kf K p i ≤ Kf K p k) → (∀ i, l' ≤ i → i < k → Kf K p k ≤ Kf K p i) → Q l' s) → (kas_place p k f l r).kasWp cmp Q s
  | 0, l, r, hf, hlr, hrk, h1, h2, hu, hq => hq l (by (first | lia | omega)) h1 fun i a b => h2 i (by (first | lia | omega)) b
  | f + 1, l, r, hf, hlr, hrk, h1, h2, hu, hq => by
    unfold kas_place
    split
    · exact hq l (by (first | lia | omega)) h1 fun i a b => h2 i (by (first | lia | omega)) b
    · rename_i hge
      refine hc _ _ _ (hp.lt hk) (hp.lt (by (first | lia | omega))) ?_
      by_cases h : K (p.getD k 0) < K (p.getD ((l + r) / 2) 0)
      · rw [decide_eq_true h]
        refine place_ok hc hp hk f l ((l + r) / 2) (by (first | lia | omega)) (by (first | lia | omega)) (by (first | lia | omega)) h1 (fun i a b => ?_) hu hq
        have hm : Kf K p k < Kf K p ((l + r) / 2) := h
        by_cases hi : i = (l + r) / 2
        · rw [hi]; (first | lia | omega)
        · have := hu ((l + r) / 2) i (by (first | lia | omega)) b; (first | lia | omega)
      · rw [decide_eq_false h]
        refine place_ok hc hp hk f ((l + r) / 2 + 1) r (by (first | lia | omega)) (by (first | lia | omega)) hrk (fun i a => ?_) h2 hu hq
        have hm : Kf K p ((l + r) / 2) ≤ Kf K p k := by unfold Kf; (first | lia | omega)
        by_cases hi : i = (l + r) / 2
        · rw [hi]; exact hm
        · have := hu i ((l + r) / 2) (by (first | lia | omega)) (by (first | lia | omega)); (first | lia | omega)
theorem Kf_bubble {p : Array Nat} {k l : Nat} (hk : k < p.size) (hl : l ≤ k) (m : Nat) : Kf K (bubble p k (k - l)) m = if m = l then Kf K p k else if l < m ∧ m ≤ k then Kf K p (m - 1) else Kf K p m := by
  unfold Kf
  have := getElem?_bubble hk (k - l) (Nat.sub_le _ _) m
  rw [show k - (k - l) = l by (first | lia | omega)] at this
  split at this
  · rename_i h; rw [if_pos h, getD_of this]
  · rename_i h
    rw [if_neg h]
    split at this
    · rename_i h2; rw [if_pos h2, getD_of this]
    · rename_i h2; rw [if_neg h2, getD_of this]
theorem bin_ok (hc : ByKey K N cmp s) {Q : Array Nat → Shared → Prop} : ∀ (f : Nat) (p : Array Nat) (k : Nat), k + f = N → PermN p N → Up K p k → (∀ p', PermN p' N → Up K p' N → Q p' s) → (kas_bin f p k).kasWp cmp Q s
  | 0, p, k, hf, hp, hu, hq => by
    have : k = N := by (first | lia | omega)
    subst this
    exact hq p hp hu
  | f + 1, p, k, hf, hp, hu, hq => by
    show KasT.kasWp cmp (KasT.bind _ _) Q s
    rw [KasT.kasWp_bind]
    refine place_ok hc hp (by (first | lia | omega)) k 0 k (by (first | lia | omega)) (Nat.zero_le _) (Nat.le_refl _) (fun i h => by (first | lia | omega)) (fun i a b => by (first | lia | omega)) hu fun l hl h1 h2 => ?_
    refine bin_ok hc f _ (k + 1) (by (first | lia | omega)) ((bubble_perm p _ _).trans hp) (fun i j hij hj => ?_) hq
    have hks : k < p.size := by rw [hp.size]; (first | lia | omega)
    rw [Kf_bubble hks hl, Kf_bubble hks hl]
    by_cases hi : i = l
    · rw [if_pos hi, if_neg (by (first | lia | omega)), if_pos ⟨by (first | lia | omega), by (first | lia | omega)⟩]
      exact h2 _ (by (first | lia | omega)) (by (first | lia | omega))
    · rw [if_neg hi]
      by_cases hj2 : j = l
      · rw [if_pos hj2, if_neg (by (first | lia | omega))]
        exact h1 i (by (first | lia | omega))
      · rw [if_neg hj2]
        by_cases hi3 : l < i ∧ i ≤ k
        · rw [if_pos hi3, if_pos ⟨by (first | lia | omega), by (first | lia | omega)⟩]
          exact hu _ _ (by (first | lia | omega)) (by (first | lia | omega))
        · rw [if_neg hi3]
          by_cases hj3 : l < j ∧ j ≤ k
          · rw [if_pos hj3]
            by_cases e : i = j - 1
            · (first | lia | omega)
            · exact hu _ _ (by (first | lia | omega)) (by (first | lia | omega))
          · rw [if_neg hj3]
            exact hu _ _ hij (by (first | lia | omega))
theorem sort_ok (hc : ByKey K N cmp s) (hN : 1 ≤ N) {Q : Array Nat → Shared → Prop} (hq : ∀ p, PermN p N → Up K p N → Q p s) : (kas_sort N).kasWp cmp Q s := by
  unfold kas_sort
  rw [KasT.kasWp_bind]
  refine count_ok hc (Array.Perm.refl _) hN fun m p hp h1 h2 hu => ?_
  dsimp only
  split
  · exact bin_ok hc _ p (max m 1) (by (first | lia | omega)) hp (by rw [Nat.max_eq_left h1]; exact hu) hq
  · have : m = N := by (first | lia | omega)
    subst this
    exact hq p hp hu
end
section
variable {prog : Program} {w : World} {A : Around} {E : Value → Shared → Prop} {s : Shared}
noncomputable def PairObjs (h : Heap) (vs : List Value) (l : List (Int × Int)) : Prop := vs.length = l.length ∧ ∀ (j : Nat) c d, l[j]? = some (c, d) → ∃ p o m t u, vs[j]? = some (.ref p) ∧ h.get? p = some o ∧ o.cls = .type "tuple" ∧ o.data = .seq #[.int c t, .int d u] m
noncomputable def keyOf (l : List (Int × Int)) (i : Nat) : Int := 3 * (l.getD i (0, 0)).1 + (l.getD i (0, 0)).2
theorem katTups_pairs {h : Heap} : ∀ {vs : List Value} {l : List (Int × Int)}, PairObjs h vs l → ∃ fs : List Value, KatTups h vs fs ∧ fs.length = l.length ∧ ∀ v ∈ fs, ∃ c t, v = .int c t
  | [], [], _ => ⟨[], KatTups.nil, rfl, fun v hv => nomatch hv⟩
  | [], _ :: _, x => by have := x.1; simp at this
  | _ :: _, [], x => by have := x.1; simp at this
  | v :: vs, (c, d) :: l, x => by
    obtain ⟨p, o, m, t, u, hv, ho, hc, hd⟩ := x.2 0 c d rfl
    simp only [List.getElem?_cons_zero, Option.some.injEq] at hv
    subst hv
    obtain ⟨fs, h1, h2, h3⟩ := katTups_pairs (vs := vs) (l := l) ⟨by have := x.1; simpa using this, fun j c d e => x.2 (j + 1) c d e⟩
    refine ⟨.int c t :: fs, KatTups.cons ho hc hd rfl h1, by simp [h2], fun v hv => ?_⟩
    rcases List.mem_cons.mp hv with rfl | hv
    · exact ⟨c, t, rfl⟩
    · exact h3 v hv
theorem pairs_byKey {vs : List Value} {l : List (Int × Int)} (x : PairObjs s.heap vs l) (hl : ∀ p ∈ l, p.2 = 1 ∨ p.2 = -1) : ByKey (keyOf l) vs.length (kas_ask prog w A (tuples' true) vs) s := fun i j C hi hj hC => by
  have hi' : i < l.length := by rw [← x.1]; exact hi
  have hj' : j < l.length := by rw [← x.1]; exact hj
  obtain ⟨p, o, m, t, u, hv, ho, hc, hd⟩ := x.2 i l[i].1 l[i].2 (by rw [List.getElem?_eq_getElem hi'])
  obtain ⟨p', o', m', t', u', hv', ho', hc', hd'⟩ := x.2 j l[j].1 l[j].2 (by rw [List.getElem?_eq_getElem hj'])
  have e1 : vs.getD i Value.none = .ref p := by rw [List.getD_eq_getElem?_getD, hv]; rfl
  have e2 : vs.getD j Value.none = .ref p' := by rw [List.getD_eq_getElem?_getD, hv']; rfl
  have k1 : l.getD i (0, 0) = l[i] := by rw [List.getD_eq_getElem?_getD, List.getElem?_eq_getElem hi']; rfl
  have k2 : l.getD j (0, 0) = l[j] := by rw [List.getD_eq_getElem?_getD, List.getElem?_eq_getElem hj']; rfl
  have w1 := hl _ (List.getElem_mem hi')
  have w2 := hl _ (List.getElem_mem hj')
  show wpAny (model prog w) A (keyLt' (tuples' true) (vs.getD i Value.none) (vs.getD j Value.none)) C (fun _ _ => False) s
  unfold keyOf at hC
  rw [k1, k2] at hC
  rw [e1, e2]
  generalize l[i] = a at *
  generalize l[j] = b at *
  obtain ⟨c, d⟩ := a
  obtain ⟨c', d'⟩ := b
  dsimp only at *
  refine kat_lt ho hd ho' hd' ?_
  show KatLex prog w A true (decide (2 < 2)) C [(.int c t, .int c' t'), (.int d u, .int d' u')] 0 s
  refine kat_cons (wpAny_eqBool_int ?_)
  by_cases hcc : c = c'
  · rw [show (c == c') = true by simp [hcc]]
    refine kat_yes (kat_cons (wpAny_eqBool_int ?_))
    by_cases hdd : d = d'
    · rw [show (d == d') = true by simp [hdd]]
      refine kat_yes (kat_nil ?_)
      have : decide (2 < 2) = decide (3 * c + d < 3 * c' + d') := by rw [hcc, hdd]; simp
      rw [this]; exact hC
    · rw [show (d == d') = false by simp [hdd]]
      refine kat_no ?_
      show wpAny (model prog w) A (oneLt' false (.int d u) (.int d' u')) C _ s
      refine kat_one _ _ (cmp_int (op := .Lt) rfl ?_)
      have : decide (d < d') = decide (3 * c + d < 3 * c' + d') := by rw [hcc, decide_eq_decide]; (first | lia | omega)
      show C (decide (d < d')) s
      rw [this]; exact hC
  · rw [show (c == c') = false by simp [hcc]]
    refine kat_no ?_
    show wpAny (model prog w) A (oneLt' true (.int c t) (.int c' t')) C _ s
    refine oneLt_int ?_
    have : decide (c < c') = decide (3 * c + d < 3 * c' + d') := by rw [decide_eq_decide]; (first | lia | omega)
    rw [this]; exact hC
theorem sort_pairs {a : Addr} {vs : List Value} {l : List (Int × Int)} {n : Nat} {P : PySem.Fin → Shared → Prop} (ho : s.heap.get? a = some (seqObj "list" vs.toArray n)) (x : PairObjs s.heap vs l) (hl : ∀ p ∈ l, p.2 = 1 ∨ p.2 = -1) (h64 : vs.length < 64) (hpa : ∀ p, (.ref p) ∈ vs → p ≠ a)
    (h : ∀ q : Array Nat, PermN q vs.length → Up (keyOf l) q vs.length → P (.done (.ret .none)) { s with heap := sortedHeap s.heap a vs (List.toArray (q.toList.map fun i => vs.getD i Value.none)) }) :
    wpAny (model prog w) A (Builtin.«list.sort» ⟨[.ref a], []⟩) P E s := by
  rw [list_sort_plain]
  have ha : a < s.heap.objs.size := Heap.lt_size ho
  refine wpAny_bind (listItems_at ho rfl ?_)
  refine wpAny_bind (listUpdate_at ho rfl ?_ (by rw [List.size_toArray, sizeLine_eq]; (first | lia | omega)) (Nat.zero_le _))
  obtain ⟨e1, ho1⟩ : ∃ e1, (s.heap.update a (Obj.mapSeq fun _ => #[])).get? a = some (seqObj "list" #[] e1) := ⟨_, get?_update_seq ho (fun _ => #[])⟩
  refine wpAny_bind (seqEpoch_at ho1 rfl ?_)
  refine wpAny_bind (wpAny_newTuple ?_ (by show vs.length ≤ _; rw [sizeLine_eq]; (first | lia | omega)))
  refine wpAny_bind (wpAny_newList ?_ (Nat.zero_le _))
  refine wpAny_holding ?_
  have ho6 : (((s.heap.update a (Obj.mapSeq fun _ => #[])).push (seqObj "tuple" vs.toArray 0)).push (seqObj "list" #[] 0)).get? a = some (seqObj "list" #[] e1) := by
    rw [Heap.get?_push_ne _ _ _ (by rw [size_push', Heap.size_update]; exact Nat.ne_of_lt (Nat.lt_succ_of_lt ha)), Heap.get?_push_ne _ _ _ (by rw [Heap.size_update]; exact Nat.ne_of_lt ha)]
    exact ho1
  have x6 : PairObjs (((s.heap.update a (Obj.mapSeq fun _ => #[])).push (seqObj "tuple" vs.toArray 0)).push (seqObj "list" #[] 0)) vs l := ⟨x.1, fun j c d e => by
    obtain ⟨p, o, m, t, u, hv, hp, hc, hd⟩ := x.2 j c d e
    have hne : p ≠ a := hpa p (List.mem_of_getElem? hv)
    exact ⟨p, o, m, t, u, hv, Heap.get?_push_of_some _ (Heap.get?_push_of_some _ ((Heap.get?_update_other _ _ (Ne.symm hne)).trans hp)), hc, hd⟩⟩
  show wpAny (model prog w) A _ P E { s with heap := ((s.heap.update a (Obj.mapSeq fun _ => #[])).push (seqObj "tuple" vs.toArray 0)).push (seqObj "list" #[] 0) }
  dsimp only
  have hsz : vs.toArray.size = vs.length := by simp
  by_cases h2 : vs.toArray.size < 2
  · rw [if_pos h2, if_pos h2]
    refine wpAny_bind (wpAny_pure ?_)
    rw [StateT.run_pure]
    refine wpAny_bind (wpAny_pure ?_)
    dsimp only
    refine wpAny_bind (seqEpoch_at ho6 rfl ?_)
    refine wpAny_bind (listUpdate_at ho6 rfl ?_ (Nat.zero_le _) (by rw [Array.size_map]; show (pairsOf vs).size ≤ _; rw [pairsOf_size, sizeLine_eq]; (first | lia | omega)))
    simp only [bne_self_eq_false, Bool.false_eq_true, if_false]
    refine wpAny_pure ?_
    have hup : Up (keyOf l) (List.range vs.length).toArray vs.length := fun i j hij hj => by (first | lia | omega)
    have := h _ (Array.Perm.refl _) hup
    have e : (arrOf (SortSt.mk' general' (vs.toArray.zip vs.toArray) #[] 7 none)).map (·.2) = List.toArray ((List.range vs.length).toArray.toList.map fun i => vs.getD i Value.none) := by
      show (vs.toArray.zip vs.toArray).map (·.2) = _
      match vs, hsz, h2 with
      | [], _, _ => simp
      | [v], _, _ => simp [List.range_succ]
      | _ :: _ :: _, _, h2 => exfalso; simp at h2; (first | lia | omega)
    rw [e]
    exact this
  · rw [if_neg h2, if_neg h2]
    have h2' : 2 ≤ vs.length := by (first | lia | omega)
    obtain ⟨fs, ht, hfl, hfi⟩ := katTups_pairs x6
    refine wpAny_bind (kat_kind (T := .type "int") ht (by rw [hfl, ← x.1]; (first | lia | omega)) (fun v hv => by obtain ⟨c, t, rfl⟩ := hfi v hv; exact Looks.now) rfl ?_)
    show wpAny (model prog w) A _ P E _
    refine wpAny_bind (wpAny_mono (kat_run (κ := tuples' true) (ks := vs) (vs := vs) (Q := fun st' s' => s' = { s with heap := ((s.heap.update a (Obj.mapSeq fun _ => #[])).push (seqObj "tuple" vs.toArray 0)).push (seqObj "list" #[] 0) } ∧ ∃ p : Array Nat, PermN p vs.length ∧ Up (keyOf l) p vs.length ∧ arrOf st' = p.map (kas_item (vs.toArray.zip vs.toArray)) ∧ failedOf st' = none)
      (G := fun p s' => s' = { s with heap := ((s.heap.update a (Obj.mapSeq fun _ => #[])).push (seqObj "tuple" vs.toArray 0)).push (seqObj "list" #[] 0) } ∧ PermN p vs.length ∧ Up (keyOf l) p vs.length)
      rfl h2' h64 (fun p st' s' a1 a2 a3 ⟨a4, a5, a6⟩ => ⟨a4, p, a5, a6, a2, a3⟩) (sort_ok (pairs_byKey (A := A) x6 hl) (by (first | lia | omega)) fun p hp hu => ⟨rfl, hp, hu⟩)) ?_ fun _ _ e => e)
    rintro ⟨⟨⟩, st'⟩ s' ⟨rfl, p, hp, hu, har, hf⟩
    dsimp only
    have hout := kat_snds (ks := vs) (vs := vs) rfl har
    refine wpAny_bind (seqEpoch_at ho6 rfl ?_)
    rw [hout]
    refine wpAny_bind (listUpdate_at ho6 rfl ?_ (Nat.zero_le _) (by rw [List.size_toArray, List.length_map, Array.length_toList, hp.size, sizeLine_eq]; (first | lia | omega)))
    rw [hf]
    simp only [bne_self_eq_false, Bool.false_eq_true, if_false]
    exact wpAny_pure (h p hp hu)
theorem call_sorted_pairs {a : Addr} {vs : List Value} {l : List (Int × Int)} {Q : Value → Shared → Prop} (ho : s.heap.IsList a vs.toArray) (x : PairObjs s.heap vs l) (hl : ∀ p ∈ l, p.2 = 1 ∨ p.2 = -1) (h64 : vs.length < 64) (hlive : ∀ p, (.ref p) ∈ vs → ∃ o, s.heap.get? p = some o)
    (h : ∀ q : Array Nat, PermN q vs.length → Up (keyOf l) q vs.length → Q (.ref (s.heap.objs.size + 1)) { s with heap := sortedAll s.heap vs (List.toArray (q.toList.map fun i => vs.getD i Value.none)) }) :
    wpAny (model prog w) A (call (.builtin "sorted") [.ref a]) Q E s := by
  refine Calls.call_function_entry kind_sorted plain_sorted entry_sorted (args_sorted1 _) ?_
  unfold Builtin.«sorted»
  refine wpAny_bind (m := checkCount "sorted" 1 1 _) (wpAny_pure ?_)
  refine wpAny_bind (collect_list ho ?_ (by rw [sizeLine_eq]; (first | lia | omega)))
  refine wpAny_bind (wpAny_newList ?_ (by rw [sizeLine_eq]; (first | lia | omega)))
  have hsz : ((s.heap.push (seqObj "list" #[] 0)).update s.heap.objs.size (Obj.mapSeq (· ++ vs.toArray))).objs.size = s.heap.objs.size + 1 := by
    rw [Heap.size_update, size_push']
  have hoL : (((s.heap.push (seqObj "list" #[] 0)).update s.heap.objs.size (Obj.mapSeq (· ++ vs.toArray))).push (seqObj "list" vs.toArray 0)).get? (s.heap.objs.size + 1) = some (seqObj "list" vs.toArray 0) := by
    rw [← hsz]; exact Heap.get?_push_size _ rfl
  have keep : ∀ b o, s.heap.get? b = some o → (((s.heap.push (seqObj "list" #[] 0)).update s.heap.objs.size (Obj.mapSeq (· ++ vs.toArray))).push (seqObj "list" vs.toArray 0)).get? b = some o := fun b o q => by
    have hlt : b < s.heap.objs.size := Heap.lt_size q
    rw [Heap.get?_push_ne _ _ _ (by rw [hsz]; exact Nat.ne_of_lt (Nat.lt_succ_of_lt hlt)), Heap.get?_update_ne _ _ _ _ (Nat.ne_of_lt hlt), Heap.get?_push_ne _ _ _ (Nat.ne_of_lt hlt)]
    exact q
  show wpAny _ _ _ _ _ { s with heap := ((s.heap.push (seqObj "list" #[] 0)).update s.heap.objs.size (Obj.mapSeq (· ++ vs.toArray))).push (seqObj "list" vs.toArray 0) }
  rw [hsz]
  refine wpAny_bind (wpAny_holding (wpAny_call_entry slot_list_sort ⟨_, hoL, rfl⟩ entry_list_sort (sort_pairs (s := { s with heap := ((s.heap.push (seqObj "list" #[] 0)).update s.heap.objs.size (Obj.mapSeq (· ++ vs.toArray))).push (seqObj "list" vs.toArray 0) }) hoL
    ⟨x.1, fun j c d e => let ⟨p, o, m, t, u, hv, hp, hc, hd⟩ := x.2 j c d e; ⟨p, o, m, t, u, hv, keep p o hp, hc, hd⟩⟩ hl h64 (fun p hp e => ?_) fun q hq hu => ⟨_, rfl, ?_⟩) (args_list_sort _)))
  · obtain ⟨o, hp⟩ := hlive p hp
    exact Nat.ne_of_lt (Nat.lt_succ_of_lt (Heap.lt_size hp)) e
  · exact wpAny_pure ⟨_, rfl, h q hq hu⟩
end
section
variable {prog : Program} {w : World} {K : Frag} {c : Cx prog w K} {n : Nat} {env : Env} {ρ ρ' : List (Option PV)} {σ : Sto}
noncomputable def pairP (p : Int × Int) : PV := .tup [.int p.1, .int p.2]
theorem reps_pairObjs {h : Heap} {bad : Addr → Prop} : ∀ {l : List (Int × Int)} {vs : List Value}, Reps prog w h bad (l.map pairP) vs → PairObjs h vs l
  | [], vs, r => by
    simp only [List.map_nil, Reps] at r
    subst r
    exact ⟨rfl, fun j c d e => by simp at e⟩
  | p :: l, vs, r => by
    simp only [List.map_cons, Reps] at r
    obtain ⟨v, us, rfl, r1, r2⟩ := r
    have ih := reps_pairObjs r2
    obtain ⟨a, ws, rfl, _, ⟨o, ho, hc, m, hd⟩, rw⟩ := Rep.tup_inv r1
    obtain ⟨v1, v2, rfl, q1, q2⟩ := two_args rw
    obtain ⟨t, rfl⟩ := q1.int_inv
    obtain ⟨u, rfl⟩ := q2.int_inv
    refine ⟨by simp [ih.1], fun j c d e => ?_⟩
    cases j with
    | zero =>
      simp only [List.getElem?_cons_zero, Option.some.injEq] at e
      subst e
      exact ⟨a, o, m, t, u, rfl, ho, hc, hd⟩
    | succ j => simp only [List.getElem?_cons_succ] at e ⊢; exact ih.2 j c d e
noncomputable def SortedPairs (l : List (Int × Int)) : Prop := l.Pairwise fun p q => 3 * p.1 + p.2 ≤ 3 * q.1 + q.2
theorem Ca.sorted {l : List (Int × Int)} {Q : PV → Sto → Prop} (hl : ∀ p ∈ l, p.2 = 1 ∨ p.2 = -1) (h64 : l.length < 64) (q : ∀ l' : List (Int × Int), l'.Perm l → SortedPairs l' → Q (.lst (l'.map pairP)) σ) : Ca c n (.builtin "sorted") [.lst (l.map pairP)] σ Q := fun A X s vs rm S rv => by
  obtain ⟨v, rfl, r⟩ := one_arg rv
  obtain ⟨a, us, k, rfl, hb, ho, rl⟩ := r.lst_inv
  have x := reps_pairObjs rl
  refine call_sorted_pairs (isList_of ho) x hl (by rw [x.1]; exact h64) (fun p hp => ?_) fun qq hq hu => ?_
  · obtain ⟨j, hj⟩ := List.mem_iff_getElem?.mp hp
    have hjl : j < l.length := by rw [← x.1]; exact (List.getElem?_eq_some_iff.mp hj).1
    obtain ⟨p', o, _, _, _, hv, hp', _⟩ := x.2 j l[j].1 l[j].2 (by rw [List.getElem?_eq_getElem hjl])
    rw [hj] at hv
    cases hv
    exact ⟨o, hp'⟩
  · have hk : s.heap.StaysIn (sortedAll s.heap us (List.toArray (qq.toList.map fun i => us.getD i Value.none))) := fun b o e => sortedAll_old e
    obtain ⟨e, he⟩ := sortedAll_at s.heap us (List.toArray (qq.toList.map fun i => us.getD i Value.none))
    have hqs := hq.size
    have hin : ∀ i ∈ qq.toList, i < l.length := fun i hi => by
      have := (hq.mem_iff).mp (Array.mem_toList_iff.mp hi)
      rw [← x.1]; simpa using this
    refine CPost.grown (tk := s.toks) S hk ?_ (q (qq.toList.map fun i => l.getD i (0, 0)) ?_ ?_)
    · simp only [Rep]
      refine ⟨_, _, e, rfl, fun hbad => ?_, he, ?_⟩
      · have hnew : s.heap.get? (s.heap.objs.size + 1) = none := by
          cases q' : s.heap.get? (s.heap.objs.size + 1) with
          | none => rfl
          | some o => exact absurd (Heap.lt_size q') (Nat.not_lt.mpr (Nat.le_succ _))
        exact good_of S hnew hbad
      · have key : ∀ is : List Nat, (∀ i ∈ is, i < l.length) → Reps prog w s.heap (Bad X σ) ((is.map fun i => l.getD i (0, 0)).map pairP) (is.map fun i => us.getD i Value.none) := by
          intro is
          induction is with
          | nil => intro _; exact Reps.nil
          | cons i is ih =>
            intro hi
            have h0 := hi i List.mem_cons_self
            obtain ⟨y, hy, ry⟩ := rl.get (i := i) (p := pairP l[i]) (by rw [List.getElem?_map, List.getElem?_eq_getElem h0]; rfl)
            have e1 : us.getD i Value.none = y := by rw [List.getD_eq_getElem?_getD, hy]; rfl
            have e2 : l.getD i (0, 0) = l[i] := by rw [List.getD_eq_getElem?_getD, List.getElem?_eq_getElem h0]; rfl
            simp only [List.map_cons]
            rw [e1, e2]
            exact Reps.cons ry (ih fun j hj => hi j (List.mem_cons_of_mem _ hj))
        exact (key _ hin).stay (stay_ext hk)
    · have h1 : (qq.toList.map fun i => l.getD i (0, 0)).Perm ((List.range us.length).map fun i => l.getD i (0, 0)) := by
        refine List.Perm.map _ ?_
        have := hq.toList
        simpa using this
      refine h1.trans (List.Perm.of_eq ?_)
      rw [x.1]
      apply List.ext_getElem (by simp)
      intro i h1 h2
      simp at h1
      simp [h1]
    · rw [SortedPairs, List.pairwise_map]
      rw [List.pairwise_iff_getElem]
      intro i j hi hj hij
      have := hu i j hij (by simp at hj; (first | lia | omega))
      unfold Kf keyOf at this
      simp only [Array.length_toList] at hi hj
      rw [Array.getD, Array.getD, dif_pos hi, dif_pos hj] at this
      simpa using this
end
section
variable {prog : Program} {w : World} {K : Frag} {c : Cx prog w K} {n : Nat} {env : Env} {ρ ρ' : List (Option PV)} {σ : Sto}
noncomputable def Wl (c : Cx prog w K) (n : Nat) (env : Env) (test : PySem.Expr) (body : List Stmt) (Q : FV → List (Option PV) → Sto → Prop) : Nat → List (Option PV) → Sto → Prop
  | 0, _, _ => False
  | k + 1, ρ, σ => ∃ b, Dt c n env ρ σ test b ∧ (b = true → Xs c n env body ρ σ (Turn (fun ρ' σ' => Wl c n env test body Q k ρ' σ') Q)) ∧ (b = false → Q .next ρ σ)
theorem Ex.while {test : PySem.Expr} {body : List Stmt} {pos : Pos} {k : Nat} {Q : FV → List (Option PV) → Sto → Prop} (h : Wl c n env test body Q k ρ σ) : Ex c n env (.While test body [] pos) ρ σ Q := fun A X s rm S R => by
  refine wpAny_While ?_
  refine codeAny_whileLoop (fun m s' => ∃ ρ' σ', Wl c n env test body Q m ρ' σ' ∧ Sat prog w c.G X s'.heap σ' ∧ LRep prog w env X s'.heap (Bad X σ') ρ' ∧ Step (Own env) s σ s' σ') (fun m s' ⟨ρ', σ', hw, S', R', x'⟩ => ?_) k ⟨ρ, σ, h, S, R, Step.refl _ _ _⟩
  cases m with
  | zero => exact hw.elim
  | succ m =>
    obtain ⟨b, hb, h1, h2⟩ := hw
    refine wpAny_mono (E := NoE) (Te.then hb rm S' R' fun b' s₁ σ₁ S₁ R₁ x₁ e => ?_) (fun _ _ x => x) fun _ _ x => x.elim
    obtain ⟨rfl, rfl⟩ := e
    have x₁' := x'.trans x₁ S' R.ok.own
    cases b' with
    | false =>
      rw [if_neg Bool.false_ne_true]
      exact wpAny_execs_nil ⟨.next, ρ', σ₁, rfl, S₁, R₁, x₁', h2 rfl⟩
    | true =>
      rw [if_pos rfl]
      refine wpAny_mono (h1 rfl A X s₁ rm S₁ R₁) (fun f s₂ ⟨fv, ρ₂, σ₂, rf, S₂, R₂, x₂, q⟩ => ?_) fun _ _ x => x.elim
      have x₂' := x₁'.trans x₂ S₁ R.ok.own
      cases fv with
      | next => have : f = .next := rf; subst this; exact ⟨m, Nat.lt_succ_self m, ρ₂, σ₂, q, S₂, R₂, x₂'⟩
      | cont => have : f = .cont := rf; subst this; exact ⟨m, Nat.lt_succ_self m, ρ₂, σ₂, q, S₂, R₂, x₂'⟩
      | brk => have : f = .brk := rf; subst this; exact ⟨.next, ρ₂, σ₂, rfl, S₂, R₂, x₂', q⟩
      | ret p =>
        obtain ⟨v, rfl, rv⟩ := rf
        exact ⟨.ret p, ρ₂, σ₂, ⟨v, rfl, rv⟩, S₂, R₂, x₂', q⟩
theorem compStart_two {elt t1 i1 : PySem.Expr} {f1 : List PySem.Expr} {t2 i2 : PySem.Expr} {f2 : List PySem.Expr} {scope : Scope} {pos : Pos} {it acc : Value} {A : Around} {s : Shared} {R : Result → Shared → Prop}
    (h0 : codeAny (model prog w) A (.compLoop (.ListComp elt [⟨t1, i1, f1, 0⟩, ⟨t2, i2, f2, 0⟩] scope pos) 1 it acc env) R s)
    (h : wpAny (model prog w) A (pyIter it) (fun it' s' => codeAny (model prog w) A (.compLoop (.ListComp elt [⟨t1, i1, f1, 0⟩, ⟨t2, i2, f2, 0⟩] scope pos) 1 it' acc env) R s') (notedBy (model prog w) A env fun x s' => R (.error x) s') s) :
    codeAny (model prog w) A (.compStart (.ListComp elt [⟨t1, i1, f1, 0⟩, ⟨t2, i2, f2, 0⟩] scope pos) 1 it acc env) R s := by
  refine codeAny_of_tree ?_
  show wpAny _ _ ((compStart (.ListComp elt [⟨t1, i1, f1, 0⟩, ⟨t2, i2, f2, 0⟩] scope pos) 1 it acc env).onRaise (fun x => do noteFrame x env; standAt theWindowsPlace)) _ _ s
  refine wpAny_notedAt ?_
  unfold compStart
  show wpAny _ _ (ask >>= _) _ _ s
  refine wpAny_bind (wpAny_askSetting (wpAny_ite ?_))
  split
  · first
      | exact wpAny_bind (wpAny_pure (wpAny_pure (And.intro rfl h0)))
      | exact wpAny_pure (And.intro rfl h0)
  · first
      | exact wpAny_bind (wpAny_rule (wpAny_bind (wpAny_standAt (wpAny_bind (wpAny_mono h (fun it' s' h' => wpAny_pure (And.intro rfl h')) fun _ _ x => x)))))
      | (refine wpAny_bind (wpAny_rule ?_); show wpAny _ _ (standAt i2.pos >>= _) _ _ s; exact wpAny_bind (wpAny_standAt (wpAny_bind (wpAny_mono h (fun it' s' h' => wpAny_pure (And.intro rfl h')) fun _ _ x => x))))
noncomputable def Em2P (c : Cx prog w K) (n : Nat) (elt t2 i2 : PySem.Expr) (f2 : List PySem.Expr) (env : Env) (acc : List PV) (ρ : List (Option PV)) (σ : Sto) (Q : List PV → List (Option PV) → Sto → Prop) : Prop :=
  It c n env t2 i2 ρ σ fun items σ₁ => CL c n env t2 f2 (EltP c n elt env) Q items acc ρ σ₁
theorem compTurn_two (elt t1 i1 : PySem.Expr) (f1 : List PySem.Expr) (t2 i2 : PySem.Expr) (f2 : List PySem.Expr) (scope : Scope) (pos : Pos) (I D : Addr) (env : Env) :
    compTurn (.ListComp elt [⟨t1, i1, f1, 0⟩, ⟨t2, i2, f2, 0⟩] scope pos) 1 (.ref I) (.ref D) env = (do
      standAt i2.pos
      match ← pyNext (.ref I) with
      | none => pure (.done .next)
      | some v =>
        letOwnedTupleGo t2 (.ref I) v
        assign t2 env v
        let mut ok := true
        for c in f2 do
          if ok then ok ← isTrue c env (eval c env)
        if ok then
          (do let _ ← call (.builtin "list.append") [.ref D, ← eval elt env])
        again (.compLoop (.ListComp elt [⟨t1, i1, f1, 0⟩, ⟨t2, i2, f2, 0⟩] scope pos) 1 (.ref I) (.ref D) env)) := by rfl
theorem compTurn_one (elt t1 i1 : PySem.Expr) (f1 : List PySem.Expr) (t2 i2 : PySem.Expr) (f2 : List PySem.Expr) (scope : Scope) (pos : Pos) (I D : Addr) (env : Env) :
    compTurn (.ListComp elt [⟨t1, i1, f1, 0⟩, ⟨t2, i2, f2, 0⟩] scope pos) 0 (.ref I) (.ref D) env = (do
      standAt i1.pos
      match ← pyNext (.ref I) with
      | none => pure (.done .next)
      | some v =>
        letOwnedTupleGo t1 (.ref I) v
        assign t1 env v
        let mut ok := true
        for c in f1 do
          if ok then ok ← isTrue c env (eval c env)
        if ok then
          (do
            let x ← eval i2 env
            standAt i2.pos
            let x ← foldedSetIterable i2 env x
            let _ ← runOwn (.compStart (.ListComp elt [⟨t1, i1, f1, 0⟩, ⟨t2, i2, f2, 0⟩] scope pos) 1 (← holding [x] (pyIter x)) (.ref D) env) env)
        again (.compLoop (.ListComp elt [⟨t1, i1, f1, 0⟩, ⟨t2, i2, f2, 0⟩] scope pos) 0 (.ref I) (.ref D) env)) := by
  have e : compTurn (.ListComp elt [⟨t1, i1, f1, 0⟩, ⟨t2, i2, f2, 0⟩] scope pos) 0 (.ref I) (.ref D) env = (standAt i1.pos >>= fun _ => pyNext (.ref I) >>= fun r => match r with
      | none => pure (.done .next)
      | some v => letOwnedTupleGo t1 (.ref I) v >>= fun _ => assign t1 env v >>= fun _ =>
        (forIn f1 true fun c r => if r = true then do let ok ← isTrue c env (eval c env); pure (ForInStep.yield ok) else pure (ForInStep.yield r)) >>= fun ok =>
          if ok = true then (eval i2 env >>= fun x => standAt i2.pos >>= fun _ => foldedSetIterable i2 env x >>= fun x => holding [x] (pyIter x) >>= fun it => runOwn (.compStart (.ListComp elt [⟨t1, i1, f1, 0⟩, ⟨t2, i2, f2, 0⟩] scope pos) 1 it (.ref D) env) env >>= fun _ => again (.compLoop (.ListComp elt [⟨t1, i1, f1, 0⟩, ⟨t2, i2, f2, 0⟩] scope pos) 0 (.ref I) (.ref D) env))
          else again (.compLoop (.ListComp elt [⟨t1, i1, f1, 0⟩, ⟨t2, i2, f2, 0⟩] scope pos) 0 (.ref I) (.ref D) env)) := by rfl
  rw [e]
  congr 1
  funext _
  congr 1
  funext r
  cases r with
  | none => rfl
  | some v =>
    dsimp only
    congr 1
    funext _
    congr 1
    funext _
    congr 1
    funext ok
    split
    · simp only [bind_assoc, pure_bind]
    · rfl
theorem Em.two {elt t1 i1 : PySem.Expr} {f1 : List PySem.Expr} {t2 i2 : PySem.Expr} {f2 : List PySem.Expr} {scope : Scope} {pos : Pos} {D : Addr} {acc : List PV} {Q : List PV → List (Option PV) → Sto → Prop} (hD : DOk env D) (hs2 : ∀ x, foldedSetIterable i2 env x = pure x) (h : Em2P c n elt t2 i2 f2 env acc ρ σ Q) :
    Em c n env D (do
            let x ← eval i2 env
            standAt i2.pos
            let x ← foldedSetIterable i2 env x
            let _ ← runOwn (.compStart (.ListComp elt [⟨t1, i1, f1, 0⟩, ⟨t2, i2, f2, 0⟩] scope pos) 1 (← holding [x] (pyIter x)) (.ref D) env) env) acc ρ σ Q := fun A X s rm S R f => by
  refine wpAny_bind (wpAny_mono (h A X s rm S R) (fun xv s₁ h₁ => wpAny_bind (wpAny_standAt (wpAny_bind (wpAny_of_eq (hs2 xv) (wpAny_bind (wpAny_holding (wpAny_mono h₁ (fun it s₂ q => wpAny_bind (wpAny_runOwn (h := none) ?_)) fun _ _ x => x))))))) fun _ _ x => x)
  obtain ⟨I, fp, wr, items, base, bvs, St, Out, σ₁, rfl, W, st0, S₂, R₂, rb, hfp, x₂, hwr, hL⟩ := q
  have hXW : ∀ a, X a → ¬ InL wr a := fun a ha z => (hwr a z).1 ha
  have hO := R.ok.own
  obtain ⟨hXD, vs, kk, hDo, rl⟩ := f
  have hal : ∀ a o, s.heap.get? a = some o → ¬ Bad X σ a → σ a = none ∧ ¬ Own env a ∧ ¬ InL wr a := fun a o e hb => by
    have hn : σ a = none := by
      cases q : σ a with
      | none => rfl
      | some b => exact absurd (.inr (by rw [q]; exact fun z => nomatch z)) hb
    have ho : ¬ Own env a := fun z => hb (.inl (hO a z))
    exact ⟨hn, ho, fun z => (hwr a z).2 o e hn ho⟩
  have st : Stay s.heap (Bad X σ) s₂.heap (Bad (And2 X (InL wr)) σ₁) := ⟨fun a o e hb => x₂.keep a o e (hal a o e hb).1 (hal a o e hb).2.1, fun a o e hb hb' => by
    obtain ⟨hn, ho, hw⟩ := hal a o e hb
    rcases hb' with (z | z) | z
    · exact hb (.inl z)
    · exact hw z
    · exact z (x₂.nn e hn)⟩
  have f₂ : Fill prog w D acc (And2 X (InL wr)) σ₁ s₂.heap := ⟨.inl hXD, vs, kk, x₂.keep D _ hDo (S.gx D hXD).1 hD.own, rl.stay st⟩
  have loop : codeAny (model prog w) A (.compLoop (.ListComp elt [⟨t1, i1, f1, 0⟩, ⟨t2, i2, f2, 0⟩] scope pos) 1 (.ref I) (.ref D) env) (fun r s' => match r with
      | .ok _ => EmPost c env D X (And2 (Own env) (InL [D])) s σ Q s'
      | .error e => NoE e s') s₂ := by
    refine comp_loop (emit := do let _ ← PySem.call (.builtin "list.append") [.ref D, ← eval elt env]) (EmP := EltP c n elt env) (compTurn_two elt t1 i1 f1 t2 i2 f2 scope pos I D env) rfl rfl rfl rfl (fun acc ρ σ Q z => Em.elt hD z.1 z.2) W st0 rm S₂ R₂ rb hfp hXW hO R.ok.cx hXD hD f₂ hL fun s' acc' ρ' σ' S' R' f' x' q => ?_
    refine ⟨acc', ρ', σ', S', R', f', ?_, q⟩
    obtain ⟨h2, tk2, rfl⟩ := x₂.eq
    obtain ⟨h3, tk3, rfl⟩ := x'.eq
    refine ⟨⟨h3, tk3, rfl⟩, fun a o e hn ho => ?_, fun a h1 hn => ?_⟩
    · have ho' : ¬ Own env a := fun z => ho (.inl z)
      refine x'.keep a o (x₂.keep a o e hn ho') (x₂.nn e hn) fun y => ?_
      rcases y with y | y | y
      · exact ho' y
      · exact ho (.inr y)
      · exact (hwr a y).2 o e hn ho'
    · cases e : s.heap.get? a with
      | none => rfl
      | some o =>
        by_cases ho : Own env a
        · exact absurd (S'.gx a (hO a ho)).1 h1
        · have := x'.grow a h1 (x₂.nn e hn)
          rw [x₂.keep a o e hn ho] at this; cases this
  exact codeAny_mono (compStart_two loop (wpAny_mono (W.again 0 _ _ st0 loop) (fun _ _ y => y) fun _ _ x => x.elim)) fun r s' hr => (by
    cases r with
    | ok f => exact wpAny_pure hr
    | error e => exact hr.elim)
theorem Ex.assignComp2 {elt t1 i1 : PySem.Expr} {f1 : List PySem.Expr} {t2 i2 : PySem.Expr} {f2 : List PySem.Expr} {scope : Scope} {x : Str} {px cpos pos : Pos} {i : Nat} {Q : FV → List (Option PV) → Sto → Prop} (js : List (Option Nat)) (hi : env.scope.names[i]? = some (x, .local))
    (h : It c n env t1 i1 ρ σ fun items σ₁ => ∀ C cl, CL c n (compEnvC scope cl C env) t1 f1 (Em2P c n elt t2 i2 f2 (compEnvC scope cl C env)) (fun acc _ σ' => Q .next (ρ.set i (some (.lst acc))) σ') items [] (linked ρ js) σ₁)
    (hkind : scope.kind = .function := by rfl) (nd : (scope.names.map (·.1)).Nodup := by decide) (hl : linkOk env.scope.names scope.names js = true := by rfl) (hf : env.frame = some env.locals := by rfl)
    (hs : ∀ x, foldedSetIterable i1 env x = pure x := by intro _; rfl) (hs2 : ∀ env x, foldedSetIterable i2 env x = pure x := by intro _ _; rfl) (hsw : swapsWith (.ListComp elt [⟨t1, i1, f1, 0⟩, ⟨t2, i2, f2, 0⟩] scope cpos) (some (.Name x px)) pos.line env = pure true := by rfl) :
    Ex c n env (.Assign [.Name x px] (.ListComp elt [⟨t1, i1, f1, 0⟩, ⟨t2, i2, f2, 0⟩] scope cpos) pos) ρ σ Q := fun A X s rm S R => by
  rw [exec_Assign_Name_used _ _ _ _ hsw]
  refine wpAny_bind (wpAny_standAt (wpAny_bind ?_))
  show wpAny _ A (do let _ ← comprehension (.ListComp elt [⟨t1, i1, f1, 0⟩, ⟨t2, i2, f2, 0⟩] scope cpos) scope env _ (newList []) false (eval i1 env) (some (PySem.assign (.Name x px) env))) _ _ s
  refine wpAny_bind (wpAny_mono (Q := fun _ s' => SPost c env X s σ Q .next s') ?_ (fun _ s' hq => wpAny_pure (wpAny_pure hq)) fun _ _ e => e)
  refine comp_core (emit := fun D env => do
            let x ← eval i2 env
            standAt i2.pos
            let x ← foldedSetIterable i2 env x
            let _ ← runOwn (.compStart (.ListComp elt [⟨t1, i1, f1, 0⟩, ⟨t2, i2, f2, 0⟩] scope cpos) 1 (← holding [x] (pyIter x)) (.ref D) env) env) (EmP := Em2P c n elt t2 i2 f2) (Q := fun acc σ' => Q .next (ρ.set i (some (.lst acc))) σ') (fun I D env => compTurn_one elt t1 i1 f1 t2 i2 f2 scope cpos I D env) (fun D env acc ρ σ Q hD z => Em.two hD (hs2 env) z) hkind nd hl hf hs h rm S R fun C D acc σ' s' L q => ?_
  obtain ⟨m, hm⟩ := L.ns
  refine wpAny_mono (As.name (c := c) (n := n) (p := .lst acc) hi (.inl rfl) A _ s' σ' (.ref D) rm L.S L.R L.rep) (fun _ s₂ ⟨S₂, R₂, x₂⟩ => ?_) fun _ _ x => x
  have hC : σ' C = none := (L.S.gx C (.inr rfl)).1
  refine ⟨m, hm.at' fun o e => x₂.keep C o e hC fun z => L.nx (R.ok.own C z), fun h' hs' => ?_⟩
  exact ⟨.next, _, σ', rfl, S₂.letgo hs' L.nx, R₂.letgo hs' L.nx R.ok, (L.x.trans x₂ L.S L.R.ok.own).letgo hs' L.new, q⟩
end
noncomputable abbrev OP := Option PV
inductive Some1 (F : OP → List OP) (ρ : List OP) : Prop
  | mk (u0 : OP) (e : ρ = F u0)
inductive Some2 (F : OP → OP → List OP) (ρ : List OP) : Prop
  | mk (u0 u1 : OP) (e : ρ = F u0 u1)
inductive Some3 (F : OP → OP → OP → List OP) (ρ : List OP) : Prop
  | mk (u0 u1 u2 : OP) (e : ρ = F u0 u1 u2)
inductive Some4 (F : OP → OP → OP → OP → List OP) (ρ : List OP) : Prop
  | mk (u0 u1 u2 u3 : OP) (e : ρ = F u0 u1 u2 u3)
inductive Some5 (F : OP → OP → OP → OP → OP → List OP) (ρ : List OP) : Prop
  | mk (u0 u1 u2 u3 u4 : OP) (e : ρ = F u0 u1 u2 u3 u4)
inductive Some6 (F : OP → OP → OP → OP → OP → OP → List OP) (ρ : List OP) : Prop
  | mk (u0 u1 u2 u3 u4 u5 : OP) (e : ρ = F u0 u1 u2 u3 u4 u5)
inductive Some7 (F : OP → OP → OP → OP → OP → OP → OP → List OP) (ρ : List OP) : Prop
  | mk (u0 u1 u2 u3 u4 u5 u6 : OP) (e : ρ = F u0 u1 u2 u3 u4 u5 u6)
inductive E33 {α β γ : Type} (A B C : α → β → γ → Prop) : Prop
  | mk (a : α) (b : β) (d : γ) (h1 : A a b d) (h2 : B a b d) (h3 : C a b d)
inductive E34 {α β γ : Type} (A B C D : α → β → γ → Prop) : Prop
  | mk (a : α) (b : β) (d : γ) (h1 : A a b d) (h2 : B a b d) (h3 : C a b d) (h4 : D a b d)
theorem argn0 {α : Type} {P : List α → Prop} (h : P []) : ∀ vs : List α, vs.length = 0 → P vs
  | [], _ => h
theorem argnS {α : Type} {n : Nat} {P : List α → Prop} (h : ∀ a vs, vs.length = n → P (a :: vs)) (vs : List α) (e : vs.length = n + 1) : P vs := by
  cases vs with
  | nil => cases e
  | cons a t => exact h a t (Nat.succ.inj e)
theorem argn1 {α : Type} {P : List α → Prop} (h : ∀ a, P [a]) : ∀ vs : List α, vs.length = 1 → P vs := argnS fun a => argn0 (P := fun l => P (a :: l)) (h a)
theorem argn2 {α : Type} {P : List α → Prop} (h : ∀ a b, P [a, b]) : ∀ vs : List α, vs.length = 2 → P vs := argnS fun a => argn1 (P := fun l => P (a :: l)) (h a)
theorem argn3 {α : Type} {P : List α → Prop} (h : ∀ a b c, P [a, b, c]) : ∀ vs : List α, vs.length = 3 → P vs := argnS fun a => argn2 (P := fun l => P (a :: l)) (h a)
theorem argn4 {α : Type} {P : List α → Prop} (h : ∀ a b c d, P [a, b, c, d]) : ∀ vs : List α, vs.length = 4 → P vs := argnS fun a => argn3 (P := fun l => P (a :: l)) (h a)
theorem argn5 {α : Type} {P : List α → Prop} (h : ∀ a b c d e, P [a, b, c, d, e]) : ∀ vs : List α, vs.length = 5 → P vs := argnS fun a => argn4 (P := fun l => P (a :: l)) (h a)
theorem argn6 {α : Type} {P : List α → Prop} (h : ∀ a b c d e f, P [a, b, c, d, e, f]) : ∀ vs : List α, vs.length = 6 → P vs := argnS fun a => argn5 (P := fun l => P (a :: l)) (h a)
theorem argn8 {α : Type} {P : List α → Prop} (h : ∀ a b c d e f g i, P [a, b, c, d, e, f, g, i]) : ∀ vs : List α, vs.length = 8 → P vs := argnS fun a => argnS fun b => argn6 (P := fun l => P (a :: b :: l)) (h a b)
section
variable {prog : Program} {w : World} {K : Frag} {c : Cx prog w K} {n : Nat} {env : Env} {ρ ρ' : List (Option PV)} {σ : Sto}
noncomputable def nameAt : List (Str × NameKind) → List (Option PV) → Str → Option PV
  | (y, k) :: ns, p :: ρ, x => if y = x then (if k = .globalImplicit then none else p) else nameAt ns ρ x
  | _, _, _ => none
theorem nameAt_get : ∀ {ns : List (Str × NameKind)} {ρ : List (Option PV)} {x : Str} {p : PV}, nameAt ns ρ x = some p → ∃ (i : Nat) (k : NameKind), ns[i]? = some (x, k) ∧ ρ[i]? = some (some p)
  | [], _, _, _, h => by simp [nameAt] at h
  | _ :: _, [], _, _, h => by simp [nameAt] at h
  | (y, k) :: ns, q :: ρ, x, p, h => by
    unfold nameAt at h
    by_cases e : y = x
    · rw [if_pos e] at h
      by_cases g : k = .globalImplicit
      · rw [if_pos g] at h; cases h
      · rw [if_neg g] at h; exact ⟨0, k, by rw [e]; rfl, by rw [h]; rfl⟩
    · rw [if_neg e] at h
      obtain ⟨i, k', h1, h2⟩ := nameAt_get h
      exact ⟨i + 1, k', h1, h2⟩
theorem De.nm {x : Str} {pv : PV} {pos : Pos} (h : nameAt env.scope.names ρ x = some pv) (hd : (x == ("__debug__" : Str)) = false := by decide) (hc : (x == ("__classdict__" : Str)) = false := by decide) : De c n env ρ σ (.Name x pos) pv :=
  let ⟨_, _, h1, h2⟩ := nameAt_get h
  De.name h1 h2 hd hc
noncomputable def topAt : List (Str × NameKind) → Str → Bool
  | (y, k) :: ns, x => if y = x then k == .globalImplicit else topAt ns x
  | [], _ => false
theorem topAt_get : ∀ {ns : List (Str × NameKind)} {x : Str}, topAt ns x = true → ∃ i : Nat, ns[i]? = some (x, .globalImplicit)
  | [], _, h => by simp [topAt] at h
  | (y, k) :: ns, x, h => by
    unfold topAt at h
    by_cases e : y = x
    · rw [if_pos e] at h; exact ⟨0, by rw [e, eq_of_beq h]; rfl⟩
    · rw [if_neg e] at h; obtain ⟨i, h⟩ := topAt_get h; exact ⟨i + 1, h⟩
theorem De.gn {x : Str} {pos : Pos} {j : Int} {t : Tok} (h : topAt env.scope.names x = true) (e : nsIn K mainGlobals x = some (some (.int j t))) (hd : (x == ("__debug__" : Str)) = false := by decide) : De c n env ρ σ (.Name x pos) (.int j) :=
  let ⟨_, h1⟩ := topAt_get h
  De.globNum h1 e hd
end
section
variable {prog : Program} {w : World} {K : Frag} {c : Cx prog w K} {n : Nat} {env : Env} {ρ ρ' : List (Option PV)} {σ : Sto}
theorem Cc.fn {f : Addr} {oc cdv ct dV kV doc pm : Value} {od an : Option Addr} {osl : Array (Option Value)} {name qual : Str} {params : Arguments} {body : List Stmt} {scope : Scope} {l : List PV} {Q : PV → Sto → Prop} (xs : List Str)
    (ho : K.lookup f = some ⟨oc, od, .func (fnOf name qual params body scope dV kV doc pm an cdv ct), osl⟩)
    (hb : ∀ vs : List Value, vs.length = l.length → bindArgs (fnOf name qual params body scope dV kV doc pm an cdv ct) ⟨vs, []⟩ = pure (xs.zip vs))
    (h : ∀ L cells, Xs c n (envX qual scope L f cdv cells) body (ρ0 scope l) σ (Back Q))
    (hcd : codeIn K cdv qual = true := by rfl) (hx : (scope.names.map (·.1)).take xs.length = xs := by rfl) (hk : (scope.names.take xs.length).all (fun p : Str × NameKind => p.2 == NameKind.local || p.2 == NameKind.cell) = true := by rfl) (nd : (scope.names.map (·.1)).Nodup := by decide) (hl : xs.length = l.length := by rfl)
    (hco : scope.isCoroutine = false := by rfl) (hgen : scope.isGenerator = false := by rfl) (hfk : scope.kind = .function := by rfl) : Cc c (n + 1) (.ref f) l σ Q :=
  Cc.def ho hcd hx hk nd hl (fun s bad vs _ r => ⟨vs, BindsTo.of_eq (hb vs r.length), r⟩) hco hgen hfk h
end
section
variable {prog : Program} {w : World} {K : Frag} {c : Cx prog w K} {n : Nat} {env : Env} {ρ ρ' : List (Option PV)} {σ : Sto}
noncomputable def FnAt (K : Frag) (f : Str) (a : Addr) : Prop := nsIn K mainGlobals f = some (some (.ref a)) ∧ keepIn K (.ref a) = true
theorem Ev.fn {f : Str} {a : Addr} {fp pos : Pos} {e : PySem.Expr} {es : List PySem.Expr} {Q : PV → Sto → Prop} (F : FnAt K f a) (h : Es c n env (e :: es) ρ σ fun l σ₁ => Ca c n (.ref a) l σ₁ Q) (ht : topAt env.scope.names f = true := by rfl)
    (hd : (f == ("__debug__" : Str)) = false := by decide) (he : starEach (e :: es) env = (false, eval e env) :: starEach es env := by rfl) (hp : (backTo pos (starEach es env)).any (·.1) = false := by rfl) : Ev c n env (.Call (.Name f fp) (e :: es) [] pos) ρ σ Q :=
  let ⟨_, hi⟩ := topAt_get ht
  Ev.call hi F.1 F.2 h hd he hp
theorem De.fn {f : Str} {a : Addr} {fp pos : Pos} {e : PySem.Expr} {es : List PySem.Expr} {l : List PV} {pv : PV} (F : FnAt K f a) (hes : Ds c n env ρ σ (e :: es) l) (h : Dc c n (.ref a) l σ pv) (ht : topAt env.scope.names f = true := by rfl)
    (hd : (f == ("__debug__" : Str)) = false := by decide) (he : starEach (e :: es) env = (false, eval e env) :: starEach es env := by rfl) (hp : (backTo pos (starEach es env)).any (·.1) = false := by rfl) : De c n env ρ σ (.Call (.Name f fp) (e :: es) [] pos) pv :=
  Ev.fn F (hes.es h) ht hd he hp
theorem Ev.bf {f : Str} {id : String} {fp pos : Pos} {es : List PySem.Expr} {Q : PV → Sto → Prop} (hb : bootBuiltins f = some (.builtin id)) (hg : nsIn K mainGlobals f = some none) (h : Es c n env es ρ σ fun l σ₁ => Ca c n (.builtin id) l σ₁ Q) (ht : topAt env.scope.names f = true := by rfl)
    (hp : (backTo pos (starEach es env)).any (·.1) = false := by rfl) (ha : es = [] ∨ ∃ e r, es = e :: r ∧ starEach (e :: r) env = (false, eval e env) :: starEach r env := by first | exact .inl rfl | exact .inr ⟨_, _, rfl, rfl⟩) (hn : f ≠ "__name__" := by decide) (hd : (f == ("__debug__" : Str)) = false := by decide) :
    Ev c n env (.Call (.Name f fp) es [] pos) ρ σ Q :=
  let ⟨_, hi⟩ := topAt_get ht
  Ev.boot hi hg hb h hp ha hn hd
theorem De.bf {f : Str} {id : String} {fp pos : Pos} {es : List PySem.Expr} {l : List PV} {pv : PV} (hb : bootBuiltins f = some (.builtin id)) (hg : nsIn K mainGlobals f = some none) (hes : Ds c n env ρ σ es l) (h : Dc c n (.builtin id) l σ pv) (ht : topAt env.scope.names f = true := by rfl)
    (hp : (backTo pos (starEach es env)).any (·.1) = false := by rfl) (ha : es = [] ∨ ∃ e r, es = e :: r ∧ starEach (e :: r) env = (false, eval e env) :: starEach r env := by first | exact .inl rfl | exact .inr ⟨_, _, rfl, rfl⟩) (hn : f ≠ "__name__" := by decide) (hd : (f == ("__debug__" : Str)) = false := by decide) :
    De c n env ρ σ (.Call (.Name f fp) es [] pos) pv := Ev.bf hb hg (hes.es h) ht hp ha hn hd
theorem Ev.bt {f : Str} {T : String} {fp pos : Pos} {es : List PySem.Expr} {Q : PV → Sto → Prop} (hb : bootBuiltins f = some (.type T)) (hg : nsIn K mainGlobals f = some none) (h : Es c n env es ρ σ fun l σ₁ => Ca c n (.type T) l σ₁ Q) (ht : topAt env.scope.names f = true := by rfl)
    (hp : (backTo pos (starEach es env)).any (·.1) = false := by rfl) (ha : es = [] ∨ ∃ e r, es = e :: r ∧ starEach (e :: r) env = (false, eval e env) :: starEach r env := by first | exact .inl rfl | exact .inr ⟨_, _, rfl, rfl⟩) (hn : f ≠ "__name__" := by decide) (hd : (f == ("__debug__" : Str)) = false := by decide) :
    Ev c n env (.Call (.Name f fp) es [] pos) ρ σ Q :=
  let ⟨_, hi⟩ := topAt_get ht
  Ev.bootT hi hg hb h hp ha hn hd
theorem De.bt {f : Str} {T : String} {fp pos : Pos} {es : List PySem.Expr} {l : List PV} {pv : PV} (hb : bootBuiltins f = some (.type T)) (hg : nsIn K mainGlobals f = some none) (hes : Ds c n env ρ σ es l) (h : Dc c n (.type T) l σ pv) (ht : topAt env.scope.names f = true := by rfl)
    (hp : (backTo pos (starEach es env)).any (·.1) = false := by rfl) (ha : es = [] ∨ ∃ e r, es = e :: r ∧ starEach (e :: r) env = (false, eval e env) :: starEach r env := by first | exact .inl rfl | exact .inr ⟨_, _, rfl, rfl⟩) (hn : f ≠ "__name__" := by decide) (hd : (f == ("__debug__" : Str)) = false := by decide) :
    De c n env ρ σ (.Call (.Name f fp) es [] pos) pv := Ev.bt hb hg (hes.es h) ht hp ha hn hd
noncomputable def fieldAt : List Str → List PV → Str → Option PV
  | y :: ns, p :: l, x => if y = x then some p else fieldAt ns l x
  | _, _, _ => none
theorem fieldAt_get : ∀ {ns : List Str} {l : List PV} {x : Str} {p : PV}, fieldAt ns l x = some p → ∃ i : Nat, ns[i]? = some x ∧ l[i]? = some p
  | [], _, _, _, h => by simp [fieldAt] at h
  | _ :: _, [], _, _, h => by simp [fieldAt] at h
  | y :: ns, q :: l, x, p, h => by
    unfold fieldAt at h
    by_cases e : y = x
    · rw [if_pos e] at h; exact ⟨0, by rw [e]; rfl, h⟩
    · rw [if_neg e] at h
      obtain ⟨i, h1, h2⟩ := fieldAt_get h
      exact ⟨i + 1, h1, h2⟩
theorem De.fld {o : PySem.Expr} {name : Str} {pos : Pos} {C : Addr} {ns : List Str} {l : List PV} {p : PV} (ho : De c n env ρ σ o (.obj C ns l)) (hk : AttrOk K C name) (h : fieldAt ns l name = some p := by rfl) (hn : ns.Nodup := by decide)
    (he : eval (.Attribute o name pos) env = (do let v ← eval o env; standAt pos.atName; let r ← holding [v] (getAttr v name true); letTemporaryGo o v r; pure r) := by rfl) : De c n env ρ σ (.Attribute o name pos) p :=
  let ⟨_, h1, h2⟩ := fieldAt_get h
  De.attr ho hk hn h1 h2 he
theorem It.rg2 {t : PySem.Expr} {es : List PySem.Expr} {fp pos : Pos} {a b : Int} {Q : List PV → Sto → Prop} (hg : nsIn K mainGlobals "range" = some none) (hes : Ds c n env ρ σ es [.int a, .int b]) (h1 : a.natAbs < 2 ^ 40) (h2 : b.natAbs < 2 ^ 40) (q : Q (nums a (b - a).toNat) σ) (ht : topAt env.scope.names "range" = true := by rfl)
    (ho : ArgsOk es env pos := by exact ⟨rfl, .inr ⟨_, _, rfl, rfl⟩⟩) : It c n env t (.Call (.Name "range" fp) es [] pos) ρ σ Q :=
  let ⟨_, hi⟩ := topAt_get ht
  It.range2 hi hg (hes.es ⟨rfl, q⟩) h1 h2 ho
theorem It.rg1 {t : PySem.Expr} {es : List PySem.Expr} {fp pos : Pos} {b : Int} {Q : List PV → Sto → Prop} (hg : nsIn K mainGlobals "range" = some none) (hes : Es c n env es ρ σ fun l σ₁ => l = [.int b] ∧ Q (nums 0 b.toNat) σ₁) (h2 : b.natAbs < 2 ^ 40) (ht : topAt env.scope.names "range" = true := by rfl)
    (ho : ArgsOk es env pos := by exact ⟨rfl, .inr ⟨_, _, rfl, rfl⟩⟩) : It c n env t (.Call (.Name "range" fp) es [] pos) ρ σ Q :=
  let ⟨_, hi⟩ := topAt_get ht
  It.range1 hi hg hes h2 ho
theorem It.zp {elts : List PySem.Expr} {k : Nat} {tpos : Pos} {es : List PySem.Expr} {fp pos : Pos} {p p' : PV} {l l' : List PV} {Q : List PV → Sto → Prop} (hg : nsIn K mainGlobals "zip" = some none) (hes : Ds c n env ρ σ es [p, p']) (h1 : p = .lst l ∨ p = .tup l) (h2 : p' = .lst l' ∨ p' = .tup l') (q : Q (zipped l l') σ) (ht : topAt env.scope.names "zip" = true := by rfl)
    (ho : ArgsOk es env pos := by exact ⟨rfl, .inr ⟨_, _, rfl, rfl⟩⟩) : It c n env (.Tuple elts k tpos) (.Call (.Name "zip" fp) es [] pos) ρ σ Q :=
  let ⟨_, hi⟩ := topAt_get ht
  It.zip hi hg (hes.es ⟨p, p', l, l', rfl, h1, h2, q⟩) ho
theorem It.en {elts : List PySem.Expr} {k : Nat} {tpos : Pos} {es : List PySem.Expr} {fp pos : Pos} {l : List PV} {Q : List PV → Sto → Prop} (hg : nsIn K mainGlobals "enumerate" = some none) (hes : Ds c n env ρ σ es [.lst l]) (q : Q (numbered l) σ) (ht : topAt env.scope.names "enumerate" = true := by rfl)
    (ho : ArgsOk es env pos := by exact ⟨rfl, .inr ⟨_, _, rfl, rfl⟩⟩) : It c n env (.Tuple elts k tpos) (.Call (.Name "enumerate" fp) es [] pos) ρ σ Q :=
  let ⟨_, hi⟩ := topAt_get ht
  It.enum hi hg (hes.es ⟨l, rfl, q⟩) ho
theorem It.sq {t e : PySem.Expr} {p : PV} {l : List PV} {Q : List PV → Sto → Prop} (h : De c n env ρ σ e p) (hp : p = .lst l ∨ p = .tup l) (q : Q l σ) : It c n env t e ρ σ Q := It.seq (h.ev ⟨l, hp, q⟩)
theorem As.nm {x : Str} {p : PV} {pos : Pos} {i : Nat} {k : NameKind} (hi : env.scope.names[i]? = some (x, k) := by rfl) (hk : Mine env k := by first | exact .inl rfl | exact .inr ⟨rfl, rfl⟩) : As c n env (.Name x pos) p ρ (ρ.set i (some p)) := As.name hi hk
theorem zipped_ints {a b : List Int} {p : PV} (h : p ∈ zipped (intsP a) (intsP b)) : ∃ x y, x ∈ a ∧ y ∈ b ∧ p = .tup [.int x, .int y] := by
  obtain ⟨i, hi⟩ := List.mem_iff_getElem?.mp h
  obtain ⟨p1, p2, h1, h2, rfl⟩ := zipped_get hi
  unfold intsP at h1 h2
  rw [List.getElem?_map, Option.map_eq_some_iff] at h1 h2
  obtain ⟨x, hx, rfl⟩ := h1
  obtain ⟨y, hy, rfl⟩ := h2
  exact ⟨x, y, List.mem_of_getElem? hx, List.mem_of_getElem? hy, rfl⟩
noncomputable def tgt2 (i j : Nat) (p : PV) (ρ : List (Option PV)) : List (Option PV) := match p with
  | .tup [a, b] => (ρ.set i (some a)).set j (some b)
  | _ => ρ
theorem set_comm' {α : Type} {l : List α} {i j : Nat} (h : i ≠ j) (a b : α) : (l.set i a).set j b = (l.set j b).set i a := List.set_comm _ _ h
theorem tgt2_id {i j : Nat} (hij : i ≠ j) {a b a' b' : PV} {ρ : List (Option PV)} : tgt2 i j (.tup [a', b']) (tgt2 i j (.tup [a, b]) ρ) = tgt2 i j (.tup [a', b']) ρ := by
  unfold tgt2
  dsimp only
  rw [set_comm' (l := ρ.set i (some a)) hij.symm (some b) (some a'), List.set_set, List.set_set]
noncomputable def intOf : PV → Int
  | .int i => i
  | _ => 0
noncomputable def partOf : PV → List PV
  | .tup l => l
  | _ => []
noncomputable def at2 (f : Int → Int → PV) (p : PV) : PV := f (intOf ((partOf p).getD 0 .none)) (intOf ((partOf p).getD 1 .none))
theorem zipped_map {a b : List Int} (g : Int → Int → Int) : (zipped (intsP a) (intsP b)).map (at2 fun x y => .int (g x y)) = intsP (List.zipWith g a b) := by
  unfold zipped intsP
  induction a generalizing b with
  | nil => rfl
  | cons x a ih => cases b with
    | nil => rfl
    | cons y b => exact congrArg (List.cons (PV.int (g x y))) (ih (b := b))
variable {cenv : Env}
theorem CL.zip2 {x y : Str} {px py tpos : Pos} {i j k : Nat} {elt : PySem.Expr} {Q : List PV → List (Option PV) → Sto → Prop} {a b : List Int} {ρc : List (Option PV)} (g : Int → Int → Int) (hi : cenv.scope.names[i]? = some (x, .local)) (hj : cenv.scope.names[j]? = some (y, .local)) (hij : i ≠ j) (hlen : a.length ≤ 100000)
    (h : ∀ u v, u ∈ a → v ∈ b → De c n cenv ((ρc.set i (some (.int u))).set j (some (.int v))) σ elt (.int (g u v))) (hq : ∀ ρ, Q (intsP (List.zipWith g a b)) ρ σ) (hp : plainTargets [.Name x px, .Name y py] cenv := by exact ⟨rfl, rfl, trivial⟩) :
    CL c n cenv (.Tuple [.Name x px, .Name y py] k tpos) [] (EltP c n elt cenv) Q (zipped (intsP a) (intsP b)) [] ρc σ := by
  refine CL.map (tgt := tgt2 i j) (at2 fun x y => .int (g x y)) (fun p ρ hm => ?_) (fun p q ρ hp hq => ?_) (by rw [zipped_length]; simp [intsP]; (first | lia | omega)) (fun p hp => ?_) (fun ρ => by rw [zipped_map]; exact hq ρ)
  · obtain ⟨u, v, _, _, rfl⟩ := zipped_ints hm
    exact As.tup (.cons (As.name hi (.inl rfl)) (.cons (As.name hj (.inl rfl)) (.nil _))) hp
  · obtain ⟨u, v, _, _, rfl⟩ := zipped_ints hp
    obtain ⟨u', v', _, _, rfl⟩ := zipped_ints hq
    exact tgt2_id hij
  · obtain ⟨u, v, hu, hv, rfl⟩ := zipped_ints hp
    exact h u v hu hv
theorem CL.mapInts {i : Nat} {x : Str} {pos : Pos} {elt : PySem.Expr} {Q : List PV → List (Option PV) → Sto → Prop} {a : List Int} {ρc : List (Option PV)} (g : Int → Int) (hi : cenv.scope.names[i]? = some (x, .local)) (hlen : a.length ≤ 100000)
    (h : ∀ u, u ∈ a → De c n cenv (ρc.set i (some (.int u))) σ elt (.int (g u))) (hq : ∀ ρ, Q (intsP (a.map g)) ρ σ) : CL c n cenv (.Name x pos) [] (EltP c n elt cenv) Q (intsP a) [] ρc σ := by
  refine CL.mapName (fun p => .int (g (intOf p))) hi (by simpa [intsP] using hlen) (fun p hp => ?_) (fun ρ => ?_)
  · obtain ⟨u, hu, rfl⟩ := List.mem_map.mp hp
    exact h u hu
  · have e : (intsP a).map (fun p => .int (g (intOf p))) = intsP (a.map g) := by unfold intsP; rw [List.map_map, List.map_map]; rfl
    rw [e]; exact hq ρ
end
section
variable {prog : Program} {w : World} {K : Frag} {c : Cx prog w K} {n : Nat} {env : Env} {ρ ρ' : List (Option PV)} {σ : Sto} {rest : List Stmt} {Q : FV → List (Option PV) → Sto → Prop}
theorem Dt.is {e : PySem.Expr} {b b' : Bool} (h : Dt c n env ρ σ e b) (hb : b = b') : Dt c n env ρ σ e b' := hb ▸ h
theorem De.is {e : PySem.Expr} {b b' : PV} (h : De c n env ρ σ e b) (hb : b = b') : De c n env ρ σ e b' := hb ▸ h
theorem Xs.let {x : Str} {px pos : Pos} {e : PySem.Expr} {k : NameKind} (i : Nat) (p : PV) (h : De c n env ρ σ e p) (r : Xs c n env rest (ρ.set i (some p)) σ Q) (hi : env.scope.names[i]? = some (x, k) := by rfl) (hk : Mine env k := by first | exact .inl rfl | exact .inr ⟨rfl, rfl⟩)
    (hs : swapsWith e (some (.Name x px)) pos.line env = pure false := by rfl) : Xs c n env (.Assign [.Name x px] e pos :: rest) ρ σ Q := Xs.cons (Ex.assign hi (h.ev r) hk hs)
theorem Xs.unpack {ts : List PySem.Expr} {m : Nat} {tpos pos : Pos} {e : PySem.Expr} (p : PV) (h : De c n env ρ σ e p) (a : As c n env (.Tuple ts m tpos) p ρ ρ') (r : Xs c n env rest ρ' σ Q)
    (hs : swapsWithSole [.Tuple ts m tpos] e pos.line env = pure false := by rfl) (hw : swappedStores [.Tuple ts m tpos] e env = pure none := by rfl) : Xs c n env (.Assign [.Tuple ts m tpos] e pos :: rest) ρ σ Q := Xs.cons (Ex.assignTo (h.ev ⟨rfl, r⟩) a hs hw)
theorem Xs.give {e : PySem.Expr} {pos : Pos} (p : PV) (h : De c n env ρ σ e p) (q : Q (.ret p) ρ σ) : Xs c n env (.Return (some e) pos :: rest) ρ σ Q := Xs.ret (h.ev q)
theorem De.tp {es : List PySem.Expr} {k : Nat} {pos : Pos} {l : List PV} (h : Ds c n env ρ σ es l) (hz : l.length ≤ 1000 := by exact Nat.le_of_ble_eq_true rfl) : De c n env ρ σ (.Tuple es k pos) (.tup l) := De.tuple h hz
theorem De.ls {es : List PySem.Expr} {pos : Pos} {l : List PV} (h : Ds c n env ρ σ es l) (hz : l.length ≤ 1000 := by exact Nat.le_of_ble_eq_true rfl) : De c n env ρ σ (.List es pos) (.lst l) := De.list h hz
theorem De.fst {v : PySem.Expr} {pos p2 : Pos} {k : Nat} {a : Int × Int} (hv : De c n env ρ σ v (pairP a)) : De c n env ρ σ (.Subscript v (.Constant (.int 0) k p2) pos) (.int a.1) := De.item (l := [.int a.1, .int a.2]) hv De.num (by decide) (by decide) rfl rfl
theorem De.snd {v : PySem.Expr} {pos p2 : Pos} {k : Nat} {a : Int × Int} (hv : De c n env ρ σ v (pairP a)) : De c n env ρ σ (.Subscript v (.Constant (.int 1) k p2) pos) (.int a.2) := De.item (l := [.int a.1, .int a.2]) hv De.num (by decide) (by decide) rfl rfl
theorem Xs.skip {t : PySem.Expr} {body : List Stmt} {pos : Pos} (ht : Dt c n env ρ σ t false) (r : Xs c n env rest ρ σ Q) : Xs c n env (.If t body [] pos :: rest) ρ σ Q := Xs.cons (Ex.ifs ht (fun e => nomatch e) fun _ => Xs.nil r)
theorem Xs.take {t : PySem.Expr} {body orelse : List Stmt} {pos : Pos} (ht : Dt c n env ρ σ t true) (r : Xs c n env body ρ σ (Go c n env rest Q)) : Xs c n env (.If t body orelse pos :: rest) ρ σ Q := Xs.cons (Ex.ifs ht (fun _ => r) fun e => nomatch e)
theorem Xs.ifs {t : PySem.Expr} {body : List Stmt} {pos : Pos} {b : Bool} (ht : Dt c n env ρ σ t b) (h1 : b = true → Xs c n env body ρ σ (Go c n env rest Q)) (h2 : b = false → Xs c n env rest ρ σ Q) : Xs c n env (.If t body [] pos :: rest) ρ σ Q := Xs.cons (Ex.ifs ht h1 fun e => Xs.nil (h2 e))
theorem As.pr {ts : List PySem.Expr} {k : Nat} {pos : Pos} {l : List PV} (a : Ass c n env ts l ρ ρ') (hp : plainTargets ts env) : As c n env (.Tuple ts k pos) (.tup l) ρ ρ' := As.tup a hp
theorem Loop.inv {t : PySem.Expr} {body : List Stmt} {items : List PV} (I : Nat → List (Option PV) → Sto → Prop)
    (h : ∀ (k : Nat) p ρ σ, items[k]? = some p → I k ρ σ → ∃ ρ₁, As c n env t p ρ ρ₁ ∧ Xs c n env body ρ₁ σ (Turn (I (k + 1)) Q)) (hq : ∀ ρ σ, I items.length ρ σ → Q .next ρ σ) : ∀ ρ σ, I 0 ρ σ → Loop c n env t body Q items ρ σ := by
  have key : ∀ (l : List PV) (k : Nat) ρ σ, items.drop k = l → k ≤ items.length → I k ρ σ → Loop c n env t body Q l ρ σ := by
    intro l
    induction l with
    | nil =>
      intro k ρ σ hd hle hI
      have : k = items.length := Nat.le_antisymm hle (List.drop_eq_nil_iff.mp hd)
      subst this
      exact hq ρ σ hI
    | cons p l ih =>
      intro k ρ σ hd hle hI
      have hk : items[k]? = some p := by
        have := congrArg (fun l : List PV => l[0]?) hd
        simpa using this
      have hlt : k < items.length := (List.getElem?_eq_some_iff.mp hk).1
      have hd' : items.drop (k + 1) = l := by rw [← List.drop_drop, hd]; rfl
      obtain ⟨ρ₁, ha, hb⟩ := h k p ρ σ hk hI
      refine ⟨ρ₁, ha, Xs.mono hb fun f ρ' σ' q => ?_⟩
      cases f with
      | next => exact ih (k + 1) ρ' σ' hd' hlt q
      | cont => exact ih (k + 1) ρ' σ' hd' hlt q
      | brk => exact q
      | ret p => exact q
  intro ρ σ hI
  exact key items 0 ρ σ rfl (Nat.zero_le _) hI
theorem Xs.for {t iter : PySem.Expr} {body : List Stmt} {pos : Pos} (h : It c n env t iter ρ σ fun items σ₁ => Loop c n env t body (Go c n env rest Q) items ρ σ₁) (hs : ∀ x, foldedSetIterable iter env x = pure x := by intro _; rfl) : Xs c n env (.For t iter body [] pos :: rest) ρ σ Q := Xs.cons (Ex.for h hs)
theorem reads_strs {h : Heap} {bad : Addr → Prop} : ∀ {xs : List Str} {vs : List Value}, Reps prog w h bad (xs.map .str) vs → ∃ as, ReadsAll h vs (xs.map .str) as
  | [], vs, r => by simp only [List.map_nil, Reps] at r; subst r; exact ⟨[], ReadsAll.nil⟩
  | x :: xs, vs, r => by
    simp only [List.map_cons, Reps] at r
    obtain ⟨v, us, rfl, r1, r2⟩ := r
    obtain ⟨t, rfl⟩ := Rep.str_inv r1
    obtain ⟨as, q⟩ := reads_strs r2
    exact ⟨_, ReadsAll.cons (Reads.str x t) q⟩
theorem CmpTo.notInStrs {x : Str} {xs : List Str} {b : Bool} (hx : (PyData.str x).canLay0 = true) (hxs : PyData.canLayAll0 (xs.map .str) = true) (hb : (!(xs.map PyData.str).any fun y => y.eqv (.str x)) = b) : CmpTo c n σ .NotIn (.str x) (.tup (xs.map .str)) b := fun A X s v u P rm S rv ru q => by
  obtain ⟨t, rfl⟩ := rv.str_inv
  obtain ⟨a, vs, rfl, _, ⟨o, ho, hc, m, hd⟩, rl⟩ := ru.tup_inv
  obtain ⟨as, r⟩ := reads_strs rl
  have hu := rm.u64
  exact SeqAt.notIn_tuple_reads (Reads.tuple ho hc hd (by simpa using r)) (Reads.str x t) hxs hx (by have : (PyData.str x).depth = 0 := by simp [PyData.depth]
                                                                                                     rw [this]; (first | lia | omega)) (by rw [hb]; exact q)
theorem Xs.setA {o e : PySem.Expr} {name : Str} {apos pos : Pos} {C d : Addr} {ns : List Str} {l : List PV} (p : PV) (hk : SetOk K C name) (h : De c n env ρ (σ.upd d (.flds ns l)) e p) (ho : De c n env ρ (σ.upd d (.flds ns l)) o (.self C d)) (r : Xs c n env rest ρ (σ.upd d (.flds (ns ++ [name]) (l ++ [p]))) Q)
    (hn : name ∉ ns := by decide) (hz : ns.length ≤ 100 := by decide) (hs : swapsWith e (some (.Attribute o name apos)) pos.line env = pure false := by rfl) : Xs c n env (.Assign [.Attribute o name apos] e pos :: rest) ρ (σ.upd d (.flds ns l)) Q :=
  Xs.cons (Ex.setAttr (d := d) (h.ev ⟨⟨upd_self, ho⟩, by rw [upd_upd]; exact r⟩) hk hn hz hs)
theorem Xs.setE {o e : PySem.Expr} {name : Str} {apos pos : Pos} {C d : Addr} {ns : List Str} {l : List PV} (hk : SetOk K C name) (h : Ev c n env e ρ σ fun p σ₁ => (σ₁ d = some (.flds ns l) ∧ De c n env ρ σ₁ o (.self C d)) ∧ Xs c n env rest ρ (σ₁.upd d (.flds (ns ++ [name]) (l ++ [p]))) Q)
    (hn : name ∉ ns := by decide) (hz : ns.length ≤ 100 := by decide) (hs : swapsWith e (some (.Attribute o name apos)) pos.line env = pure false := by rfl) : Xs c n env (.Assign [.Attribute o name apos] e pos :: rest) ρ σ Q :=
  Xs.cons (Ex.setAttr (d := d) h hk hn hz hs)
theorem Dc.make {C fI : Addr} {l as : List PV} {ns : List Str} (hm : makesIn K C = true) (hi : findIn K (.ref C) "__init__" = some (some (.ref fI))) (hf : typeIn K (.ref fI) = some (.type "function"))
    (h : ∀ d, σ d = none → Cc c n (.ref fI) (.self C d :: as) (σ.upd d (.flds [] [])) fun p σ₁ => p = .none ∧ σ₁ = σ.upd d (.flds ns l)) : Dc c (n + 1) (.ref C) as σ (.obj C ns l) :=
  Ca.make hm hi hf fun d hd A X s vs rm S r => codeAny_mono (h d hd A X s vs rm S r) fun r' s' q => by
    cases r' with
    | error e => exact q
    | ok fl => cases fl with
      | ret v =>
        obtain ⟨pv, σ', r1, S', x, rfl, rfl⟩ := q
        exact ⟨_, _, r1, S', x, rfl, ns, l, upd_self, rfl, drop_upd hd⟩
      | _ => exact q
theorem Dc.ofList {f : Value} {as L : List PV} (h : Ca c n f as σ fun p σ' => ∃ b, p = .at b ∧ σ b = none ∧ σ' = σ.upd b (.list L)) : Dc c n f as σ (.lst L) :=
  Ca.frz (Ca.mono h fun p σ' ⟨b, hp, hb, hs⟩ => by
    subst hp; subst hs
    exact ⟨.lst L, _, Frz.list b L upd_self, rfl, drop_upd hb⟩)
inductive FillPost (σ : Sto) (x : Box) (p : PV) (σ' : Sto) : Prop
  | mk (b : Addr) (e : p = .at b) (h : σ b = none) (e' : σ' = σ.upd b x)
theorem Dc.ofDict {f : Value} {as l : List PV} {ks : List (List Int)} (h : Ca c n f as σ (FillPost σ (.dict ks l))) : Dc c n f as σ (.dct ks l) :=
  Ca.frz (Ca.mono h fun p σ' ⟨b, hp, hb, hs⟩ => by
    subst hp; subst hs
    exact ⟨.dct ks l, _, Frz.dict b ks l upd_self, rfl, drop_upd hb⟩)
theorem Xs.frzL {i : Nat} {a : Addr} {L : List PV} (hn : σ a = none) (hi : ρ[i]? = some (some (.at a))) (r : Xs c n env rest (ρ.set i (some (.lst L))) σ Q) : Xs c n env rest ρ (σ.upd a (.list L)) Q :=
  Xs.frz hi (Frz.list a L upd_self) (by rw [drop_upd hn]; exact r)
theorem Xs.app {o e : PySem.Expr} {apos cpos pos : Pos} {a : Addr} {l : List PV} (p : PV) (ho : De c n env ρ (σ.upd a (.list l)) o (.at a)) (h : De c n env ρ (σ.upd a (.list l)) e p) (hz : l.length ≤ 100000) (r : Xs c n env rest ρ (σ.upd a (.list (l ++ [p]))) Q)
    (hi : interactive env = false := by rfl) (hs : swapsWith (.Call (.Attribute o "append" apos) [e] [] cpos) none pos.line env = pure false := by rfl)
    (h1 : attributeBase o "append" env (eval o env) = eval o env := by rfl)
    (h2 : ((((backTo cpos (starEach [e] env)).all fun x => !x.fst) && (backToKw cpos (keywordEach [] env)).all fun x => x.fst.isSome) && decide (([e].length + ([] : List Keyword).length + if ([] : List Keyword).isEmpty = true then 0 else 1) < 30)) = true := by rfl)
    (h3 : (apos.endLine == cpos.line) = true := by rfl) (hp : (backTo cpos (starEach [e] env)).any (·.1) = false := by rfl) (he : starEach [e] env = (false, eval e env) :: starEach [] env := by rfl) :
    Xs c n env (.Expr (.Call (.Attribute o "append" apos) [e] [] cpos) pos :: rest) ρ (σ.upd a (.list l)) Q :=
  Xs.cons (Ex.expr (Ev.bm ho (.inl ⟨rfl, l, upd_self⟩) (Es.cons (h.ev (Es.nil (Ca.append upd_self hz (by rw [upd_upd]; exact r)))) he) F.plainAttrs_list F.slot_list_append F.type_list_append h1 h2 h3 hp (.inr ⟨_, _, rfl, he⟩)) hi hs)
theorem Xs.newL {x : Str} {px lpos pos : Pos} {k : NameKind} (i : Nat) (r : ∀ a, σ a = none → Xs c n env rest (ρ.set i (some (.at a))) (σ.upd a (.list [])) Q) (hi : env.scope.names[i]? = some (x, k) := by rfl) (hk : Mine env k := by first | exact .inl rfl | exact .inr ⟨rfl, rfl⟩)
    (hs : swapsWith (.List [] lpos) (some (.Name x px)) pos.line env = pure false := by rfl) : Xs c n env (.Assign [.Name x px] (.List [] lpos) pos :: rest) ρ σ Q :=
  Xs.cons (Ex.assign hi (Ev.listAt (Es.nil ⟨by decide, fun a ha => r a ha⟩)) hk hs)
theorem Xs.ifJ {t : PySem.Expr} {body : List Stmt} {pos : Pos} {b : Bool} (J : List (Option PV) → Sto → Prop) (ht : Dt c n env ρ σ t b) (h1 : b = true → Xs c n env body ρ σ (Join J Q)) (h2 : b = false → J ρ σ) (k : ∀ ρ' σ', J ρ' σ' → Xs c n env rest ρ' σ' Q) : Xs c n env (.If t body [] pos :: rest) ρ σ Q :=
  Xs.ifs ht (fun e => Xs.mono (h1 e) fun f ρ' σ' q => by
    cases f with
    | next => exact k _ _ q
    | brk => exact q
    | cont => exact q
    | ret p => exact q) fun e => k _ _ (h2 e)
end
section
noncomputable abbrev prog0 : Program := (OpenRow.toRowW (OpenLaw.row PySem.Challenge.rw_on0246_01)).1
noncomputable def sA (i : Nat) : Stmt := (prog0.main.body[i]?).getD (.Pass ⟨0, 0, 0, 0⟩)
noncomputable def sM (i j : Nat) : Stmt := match sA i with
  | .ClassDef _ _ _ b .. => (b[j]?).getD (.Pass ⟨0, 0, 0, 0⟩)
  | s => s
noncomputable def kF (s : Stmt) (q : Str) (d : Value) (mod : Str) (t : Tok) (c : Addr) : Obj := match s with
  | .FunctionDef name args body _ _ _ scope _ _ _ => ⟨.type "function", none, .func ⟨name, q, args, .stmts body, scope, 3, [], d, .none, .none, .str mod t, none, .ref c, .none, 0⟩, #[]⟩
  | _ => default
noncomputable def kO (c : Value) (d : Data) : Obj := ⟨c, none, d, #[]⟩
noncomputable def kE (P : Params) (x : Str) (t : Tok) (v : Value) : DictEntry := ⟨PyData.keyHash P x, .str x t, v⟩
noncomputable def kC (n : Str) (b m : List Value) (ns : Addr) (q : Str) (hd : Bool) (sl : List Str) (sub : List Value) (ab : Bool) (co : Option Bool) (del : Bool) (slots : Array (Option Value)) : Obj := ⟨.type "type", none, .cls ⟨n, b, m, ns, q, hd, sl, sub, ab, co, del⟩, slots⟩
noncomputable def heapK (P : Params) : Frag := [
  (3, kO (.type "dict") (.dict #[kE P "__name__" 165 (.str "law_on0246_01" 895), kE P "__doc__" 166 .none, kE P "__package__" 167 .none, kE P "__loader__" 168 (.builtin "__main__.__loader__#opaque"), kE P "__spec__" 169 .none, kE P "__annotations__" 170 (.ref 6), kE P "__builtins__" 171 (.ref 4), kE P "__file__" 173 (.str "/claim/cut.py" 172), kE P "__cached__" 174 .none, kE P "_wall" 193 (.ref 21), kE P "MOST_blend" 197 (.int 255 196), kE P "mixed" 207 (.ref 28), kE P "over" 213 (.ref 33), kE P "box_of" 221 (.ref 38), kE P "MOST_colours" 225 (.int 255 224), kE P "weighted" 233 (.ref 45), kE P "MillError" 264 (.ref 62), kE P "SizeFault" 280 (.ref 75), kE P "RULES" 285 (.ref 78), kE P "is_inside" 293 (.ref 85), kE P "step_of" 301 (.ref 92), kE P "ceiling" 309 (.ref 99), kE P "column_behind" 319 (.ref 106), kE P "check_rule" 326 (.ref 113), kE P "steps_of_row" 337 (.ref 120), kE P "spans_by" 351 (.ref 127), kE P "sample_spans" 363 (.ref 134), kE P "Side" 426 (.ref 172), kE P "side_between" 434 (.ref 183), kE P "sides_of_contour" 447 (.ref 190), kE P "sides_of" 458 (.ref 198), kE P "sides_between" 464 (.ref 203), kE P "FULL_ALPHA" 468 (.int 255 467), kE P "rounded_share" 476 (.ref 210), kE P "Mask" 592 (.ref 283), kE P "mask_of" 609 (.ref 294), kE P "common_tile" 623 (.ref 301), kE P "tile_of_box" 635 (.ref 308), kE P "FULL_painter" 639 (.int 255 638), kE P "rectangle_of" 646 (.ref 315), kE P "share" 658 (.ref 322), kE P "thinned" 664 (.ref 327), kE P "paint_fill" 690 (.ref 334), kE P "NOTHING" 697 (.ref 335), kE P "Canvas" 791 (.ref 401), kE P "FULL_clips" 795 (.int 255 794), kE P "AlphaMap" 854 (.ref 441), kE P "Flat" 894 (.ref 469), kE P "_law_pool" 905 (.ref 480), kE P "_law_take" 914 (.ref 487), kE P "_law_one" 922 (.ref 494), kE P "_law_contour" 934 (.ref 501), kE P "_law_wound" 951 (.ref 508), kE P "_law_times" 959 (.ref 515), kE P "_law_dot" 965 (.ref 520), kE P "_law_colour" 971 (.ref 525), kE P "_law_filled" 977 (.ref 530), kE P "_law_clip" 988 (.ref 537), kE P "law" 994 (.ref 542)] 59)),
  (27, kO (.type "code") (.fields #[.str "mixed" 198, .str "mixed" 199, .str "/claim/cut.py" 200, .int 6 0, .int 4 0, .int 0 0, .int 0 0, .int 3 0, .ref 22, .bool true, .int 181 0, .ref 23, .none, .ref 24, .ref 25, .ref 26, .int 205 0, .int 6 0, .str "/claim/cut.py" 206])),
  (28, kF (sA 3) "mixed" .none "outlinemill.blend" 194 27),
  (32, kO (.type "code") (.fields #[.str "over" 208, .str "over" 209, .str "/claim/cut.py" 210, .int 8 0, .int 2 0, .int 0 0, .int 0 0, .int 3 0, .ref 29, .bool true, .int 181 0, .ref 30, .none, .none, .none, .ref 31, .int 211 0, .int 8 0, .str "/claim/cut.py" 212])),
  (33, kF (sA 4) "over" .none "outlinemill.blend" 194 32),
  (37, kO (.type "code") (.fields #[.str "box_of" 216, .str "box_of" 217, .str "/claim/cut.py" 218, .int 12 0, .int 1 0, .int 0 0, .int 0 0, .int 3 0, .ref 34, .bool true, .int 181 0, .ref 35, .none, .none, .none, .ref 36, .int 219 0, .int 12 0, .str "/claim/cut.py" 220])),
  (38, kF (sA 6) "box_of" .none "outlinemill.bounds" 214 37),
  (44, kO (.type "code") (.fields #[.str "weighted" 226, .str "weighted" 227, .str "/claim/cut.py" 228, .int 20 0, .int 2 0, .int 0 0, .int 0 0, .int 3 0, .ref 39, .bool true, .int 181 0, .ref 40, .none, .ref 41, .ref 42, .ref 43, .int 231 0, .int 20 0, .str "/claim/cut.py" 232])),
  (45, kF (sA 9) "weighted" .none "outlinemill.colours" 222 44),
  (78, kO (.type "tuple") (.seq #[.str "nonzero" 283, .str "evenodd" 284])),
  (84, kO (.type "code") (.fields #[.str "is_inside" 286, .str "is_inside" 287, .str "/claim/cut.py" 288, .int 31 0, .int 2 0, .int 0 0, .int 0 0, .int 3 0, .ref 79, .bool true, .int 181 0, .ref 80, .none, .ref 81, .ref 82, .ref 83, .int 291 0, .int 31 0, .str "/claim/cut.py" 292])),
  (85, kF (sA 15) "is_inside" .none "outlinemill.scan" 281 84),
  (91, kO (.type "code") (.fields #[.str "step_of" 294, .str "step_of" 295, .str "/claim/cut.py" 296, .int 33 0, .int 2 0, .int 0 0, .int 0 0, .int 3 0, .ref 86, .bool true, .int 181 0, .ref 87, .none, .ref 88, .ref 89, .ref 90, .int 299 0, .int 33 0, .str "/claim/cut.py" 300])),
  (92, kF (sA 16) "step_of" .none "outlinemill.scan" 281 91),
  (98, kO (.type "code") (.fields #[.str "ceiling" 302, .str "ceiling" 303, .str "/claim/cut.py" 304, .int 37 0, .int 2 0, .int 0 0, .int 0 0, .int 3 0, .ref 93, .bool true, .int 181 0, .ref 94, .none, .ref 95, .ref 96, .ref 97, .int 307 0, .int 37 0, .str "/claim/cut.py" 308])),
  (99, kF (sA 17) "ceiling" .none "outlinemill.scan" 281 98),
  (105, kO (.type "code") (.fields #[.str "column_behind" 310, .str "column_behind" 311, .str "/claim/cut.py" 312, .int 39 0, .int 2 0, .int 0 0, .int 0 0, .int 3 0, .ref 100, .bool true, .int 181 0, .ref 101, .none, .ref 102, .ref 103, .ref 104, .int 317 0, .int 39 0, .str "/claim/cut.py" 318])),
  (106, kF (sA 18) "column_behind" .none "outlinemill.scan" 281 105),
  (112, kO (.type "code") (.fields #[.str "check_rule" 320, .str "check_rule" 321, .str "/claim/cut.py" 322, .int 42 0, .int 1 0, .int 0 0, .int 0 0, .int 3 0, .ref 107, .bool true, .int 181 0, .ref 108, .none, .ref 109, .ref 110, .ref 111, .int 324 0, .int 42 0, .str "/claim/cut.py" 325])),
  (113, kF (sA 19) "check_rule" .none "outlinemill.scan" 281 112),
  (119, kO (.type "code") (.fields #[.str "steps_of_row" 327, .str "steps_of_row" 328, .str "/claim/cut.py" 329, .int 45 0, .int 3 0, .int 0 0, .int 0 0, .int 3 0, .ref 114, .bool true, .int 181 0, .ref 115, .none, .ref 116, .ref 117, .ref 118, .int 335 0, .int 45 0, .str "/claim/cut.py" 336])),
  (120, kF (sA 20) "steps_of_row" .none "outlinemill.scan" 281 119),
  (126, kO (.type "code") (.fields #[.str "spans_by" 338, .str "spans_by" 339, .str "/claim/cut.py" 340, .int 51 0, .int 2 0, .int 0 0, .int 0 0, .int 3 0, .ref 121, .bool true, .int 181 0, .ref 122, .none, .ref 123, .ref 124, .ref 125, .int 349 0, .int 51 0, .str "/claim/cut.py" 350])),
  (127, kF (sA 21) "spans_by" .none "outlinemill.scan" 281 126),
  (133, kO (.type "code") (.fields #[.str "sample_spans" 352, .str "sample_spans" 353, .str "/claim/cut.py" 354, .int 63 0, .int 5 0, .int 0 0, .int 0 0, .int 3 0, .ref 128, .bool true, .int 181 0, .ref 129, .none, .ref 130, .ref 131, .ref 132, .int 361 0, .int 63 0, .str "/claim/cut.py" 362])),
  (134, kF (sA 22) "sample_spans" .none "outlinemill.scan" 281 133),
  (147, kO (.type "code") (.fields #[.str "__init__" 378, .str "Side.__init__" 379, .str "/claim/cut.py" 380, .int 70 0, .int 6 0, .int 0 0, .int 0 0, .int 3 0, .ref 142, .bool true, .int 181 0, .ref 143, .none, .ref 144, .ref 145, .ref 146, .int 387 0, .int 70 0, .str "/claim/cut.py" 388])),
  (148, kF (sM 24 0) "Side.__init__" .none "outlinemill.sides" 364 147),
  (161, kO (.type "code") (.fields #[.str "covers" 397, .str "Side.covers" 398, .str "/claim/cut.py" 399, .int 80 0, .int 2 0, .int 0 0, .int 0 0, .int 3 0, .ref 156, .bool true, .int 181 0, .ref 157, .none, .ref 158, .ref 159, .ref 160, .int 402 0, .int 80 0, .str "/claim/cut.py" 403])),
  (162, kF (sM 24 2) "Side.covers" .none "outlinemill.sides" 364 161),
  (168, kO (.type "code") (.fields #[.str "place_at" 405, .str "Side.place_at" 406, .str "/claim/cut.py" 407, .int 83 0, .int 2 0, .int 0 0, .int 0 0, .int 3 0, .ref 163, .bool true, .int 181 0, .ref 164, .none, .ref 165, .ref 166, .ref 167, .int 411 0, .int 83 0, .str "/claim/cut.py" 412])),
  (169, kF (sM 24 3) "Side.place_at" .none "outlinemill.sides" 364 168),
  (171, kO (.type "dict") (.dict #[kE P "__module__" 373 (.str "outlinemill.sides" 364), kE P "__firstlineno__" 377 (.int 68 376), kE P "__init__" 389 (.ref 148), kE P "row" 396 (.ref 155), kE P "covers" 404 (.ref 162), kE P "place_at" 413 (.ref 169), kE P "__static_attributes__" 419 (.ref 170), kE P "__dict__" 421 (.ref 173), kE P "__weakref__" 423 (.ref 174), kE P "__doc__" 424 .none] 4)),
  (172, kC "Side" [.type "object"] [.ref 172, .type "object"] 171 "Side" true [] [] false none false #[none, none, some (.str "Side" 366), some (.str "Side" 374), some (.builtin "object.__new__"), some (.bool true)]),
  (182, kO (.type "code") (.fields #[.str "side_between" 427, .str "side_between" 428, .str "/claim/cut.py" 429, .int 86 0, .int 2 0, .int 0 0, .int 0 0, .int 3 0, .ref 177, .bool true, .int 181 0, .ref 178, .none, .ref 179, .ref 180, .ref 181, .int 432 0, .int 86 0, .str "/claim/cut.py" 433])),
  (183, kF (sA 25) "side_between" .none "outlinemill.sides" 364 182),
  (189, kO (.type "code") (.fields #[.str "sides_of_contour" 435, .str "sides_of_contour" 436, .str "/claim/cut.py" 437, .int 92 0, .int 2 0, .int 0 0, .int 0 0, .int 3 0, .ref 184, .bool true, .int 181 0, .ref 185, .none, .ref 186, .ref 187, .ref 188, .int 445 0, .int 92 0, .str "/claim/cut.py" 446])),
  (190, kF (sA 26) "sides_of_contour" .none "outlinemill.sides" 364 189),
  (191, kO (.type "tuple") (.seq #[.bool true])),
  (197, kO (.type "code") (.fields #[.str "sides_of" 448, .str "sides_of" 449, .str "/claim/cut.py" 450, .int 102 0, .int 2 0, .int 0 0, .int 0 0, .int 3 0, .ref 192, .bool true, .int 181 0, .ref 193, .none, .ref 194, .ref 195, .ref 196, .int 456 0, .int 102 0, .str "/claim/cut.py" 457])),
  (198, kF (sA 27) "sides_of" (.ref 191) "outlinemill.sides" 364 197),
  (202, kO (.type "code") (.fields #[.str "sides_between" 459, .str "sides_between" 460, .str "/claim/cut.py" 461, .int 107 0, .int 3 0, .int 0 0, .int 0 0, .int 3 0, .ref 199, .bool true, .int 181 0, .ref 200, .none, .none, .none, .ref 201, .int 462 0, .int 107 0, .str "/claim/cut.py" 463])),
  (203, kF (sA 28) "sides_between" .none "outlinemill.sides" 364 202),
  (209, kO (.type "code") (.fields #[.str "rounded_share" 469, .str "rounded_share" 470, .str "/claim/cut.py" 471, .int 111 0, .int 2 0, .int 0 0, .int 0 0, .int 3 0, .ref 204, .bool true, .int 181 0, .ref 205, .none, .ref 206, .ref 207, .ref 208, .int 474 0, .int 111 0, .str "/claim/cut.py" 475])),
  (210, kF (sA 31) "rounded_share" .none "outlinemill.mask" 465 209),
  (223, kO (.type "code") (.fields #[.str "__init__" 489, .str "Mask.__init__" 490, .str "/claim/cut.py" 491, .int 115 0, .int 6 0, .int 0 0, .int 0 0, .int 3 0, .ref 218, .bool true, .int 181 0, .ref 219, .none, .ref 220, .ref 221, .ref 222, .int 498 0, .int 115 0, .str "/claim/cut.py" 499])),
  (224, kF (sM 32 0) "Mask.__init__" .none "outlinemill.mask" 465 223),
  (230, kO (.type "code") (.fields #[.str "most" 501, .str "Mask.most" 502, .str "/claim/cut.py" 503, .int 125 0, .int 1 0, .int 0 0, .int 0 0, .int 3 0, .ref 225, .bool true, .int 181 0, .ref 226, .none, .ref 227, .ref 228, .ref 229, .int 505 0, .int 125 0, .str "/claim/cut.py" 506])),
  (231, kF (sM 32 1) "Mask.most" .none "outlinemill.mask" 465 230),
  (237, kO (.type "code") (.fields #[.str "place" 508, .str "Mask.place" 509, .str "/claim/cut.py" 510, .int 128 0, .int 3 0, .int 0 0, .int 0 0, .int 3 0, .ref 232, .bool true, .int 181 0, .ref 233, .none, .ref 234, .ref 235, .ref 236, .int 516 0, .int 128 0, .str "/claim/cut.py" 517])),
  (238, kF (sM 32 2) "Mask.place" .none "outlinemill.mask" 465 237),
  (244, kO (.type "code") (.fields #[.str "count" 519, .str "Mask.count" 520, .str "/claim/cut.py" 521, .int 134 0, .int 3 0, .int 0 0, .int 0 0, .int 3 0, .ref 239, .bool true, .int 181 0, .ref 240, .none, .ref 241, .ref 242, .ref 243, .int 526 0, .int 134 0, .str "/claim/cut.py" 527])),
  (245, kF (sM 32 3) "Mask.count" .none "outlinemill.mask" 465 244),
  (251, kO (.type "code") (.fields #[.str "alpha" 529, .str "Mask.alpha" 530, .str "/claim/cut.py" 531, .int 138 0, .int 3 0, .int 0 0, .int 0 0, .int 3 0, .ref 246, .bool true, .int 181 0, .ref 247, .none, .ref 248, .ref 249, .ref 250, .int 535 0, .int 138 0, .str "/claim/cut.py" 536])),
  (252, kF (sM 32 4) "Mask.alpha" .none "outlinemill.mask" 465 251),
  (258, kO (.type "code") (.fields #[.str "add" 538, .str "Mask.add" 539, .str "/claim/cut.py" 540, .int 141 0, .int 3 0, .int 0 0, .int 0 0, .int 3 0, .ref 253, .bool true, .int 181 0, .ref 254, .none, .ref 255, .ref 256, .ref 257, .int 554 0, .int 141 0, .str "/claim/cut.py" 555])),
  (259, kF (sM 32 5) "Mask.add" .none "outlinemill.mask" 465 258),
  (282, kO (.type "dict") (.dict #[kE P "__module__" 484 (.str "outlinemill.mask" 465), kE P "__firstlineno__" 488 (.int 113 487), kE P "__init__" 500 (.ref 224), kE P "most" 507 (.ref 231), kE P "place" 518 (.ref 238), kE P "count" 528 (.ref 245), kE P "alpha" 537 (.ref 252), kE P "add" 556 (.ref 259), kE P "full" 563 (.ref 266), kE P "multiplied" 571 (.ref 273), kE P "is_empty" 578 (.ref 280), kE P "__static_attributes__" 585 (.ref 281), kE P "__dict__" 587 (.ref 284), kE P "__weakref__" 589 (.ref 285), kE P "__doc__" 590 .none] 4)),
  (283, kC "Mask" [.type "object"] [.ref 283, .type "object"] 282 "Mask" true [] [] false none false #[none, none, some (.str "Mask" 477), some (.str "Mask" 485), some (.builtin "object.__new__"), some (.bool true)]),
  (293, kO (.type "code") (.fields #[.str "mask_of" 593, .str "mask_of" 594, .str "/claim/cut.py" 595, .int 163 0, .int 8 0, .int 0 0, .int 0 0, .int 3 0, .ref 288, .bool true, .int 181 0, .ref 289, .none, .ref 290, .ref 291, .ref 292, .int 607 0, .int 163 0, .str "/claim/cut.py" 608])),
  (294, kF (sA 33) "mask_of" .none "outlinemill.mask" 465 293),
  (300, kO (.type "code") (.fields #[.str "common_tile" 612, .str "common_tile" 613, .str "/claim/cut.py" 614, .int 170 0, .int 2 0, .int 0 0, .int 0 0, .int 3 0, .ref 295, .bool true, .int 181 0, .ref 296, .none, .ref 297, .ref 298, .ref 299, .int 621 0, .int 170 0, .str "/claim/cut.py" 622])),
  (301, kF (sA 35) "common_tile" .none "outlinemill.tiles" 610 300),
  (307, kO (.type "code") (.fields #[.str "tile_of_box" 624, .str "tile_of_box" 625, .str "/claim/cut.py" 626, .int 177 0, .int 2 0, .int 0 0, .int 0 0, .int 3 0, .ref 302, .bool true, .int 181 0, .ref 303, .none, .ref 304, .ref 305, .ref 306, .int 633 0, .int 177 0, .str "/claim/cut.py" 634])),
  (308, kF (sA 36) "tile_of_box" .none "outlinemill.tiles" 610 307),
  (314, kO (.type "code") (.fields #[.str "rectangle_of" 640, .str "rectangle_of" 641, .str "/claim/cut.py" 642, .int 185 0, .int 1 0, .int 0 0, .int 0 0, .int 3 0, .ref 309, .bool true, .int 181 0, .ref 310, .none, .ref 311, .ref 312, .ref 313, .int 644 0, .int 185 0, .str "/claim/cut.py" 645])),
  (315, kF (sA 39) "rectangle_of" .none "outlinemill.painter" 636 314),
  (321, kO (.type "code") (.fields #[.str "share" 647, .str "share" 648, .str "/claim/cut.py" 649, .int 187 0, .int 5 0, .int 0 0, .int 0 0, .int 3 0, .ref 316, .bool true, .int 181 0, .ref 317, .none, .ref 318, .ref 319, .ref 320, .int 656 0, .int 187 0, .str "/claim/cut.py" 657])),
  (322, kF (sA 40) "share" .none "outlinemill.painter" 636 321),
  (326, kO (.type "code") (.fields #[.str "thinned" 659, .str "thinned" 660, .str "/claim/cut.py" 661, .int 190 0, .int 2 0, .int 0 0, .int 0 0, .int 3 0, .ref 323, .bool true, .int 181 0, .ref 324, .none, .none, .none, .ref 325, .int 662 0, .int 190 0, .str "/claim/cut.py" 663])),
  (327, kF (sA 41) "thinned" .none "outlinemill.painter" 636 326),
  (333, kO (.type "code") (.fields #[.str "paint_fill" 665, .str "paint_fill" 666, .str "/claim/cut.py" 667, .int 194 0, .int 4 0, .int 0 0, .int 0 0, .int 3 0, .ref 328, .bool true, .int 181 0, .ref 329, .none, .ref 330, .ref 331, .ref 332, .int 688 0, .int 194 0, .str "/claim/cut.py" 689])),
  (334, kF (sA 42) "paint_fill" .none "outlinemill.painter" 636 333),
  (335, kO (.type "tuple") (.seq #[.int 0 693, .int 0 694, .int 0 695, .int 0 696])),
  (343, kO (.type "tuple") (.seq #[.int 0 710, .int 0 711])),
  (347, kO (.type "code") (.fields #[.str "__init__" 712, .str "Canvas.__init__" 713, .str "/claim/cut.py" 714, .int 211 0, .int 5 0, .int 0 0, .int 0 0, .int 3 0, .ref 344, .bool true, .int 181 0, .ref 345, .none, .none, .none, .ref 346, .int 715 0, .int 211 0, .str "/claim/cut.py" 716])),
  (348, kF (sM 45 0) "Canvas.__init__" (.ref 343) "outlinemill.canvas" 691 347),
  (354, kO (.type "code") (.fields #[.str "holds" 718, .str "Canvas.holds" 719, .str "/claim/cut.py" 720, .int 220 0, .int 3 0, .int 0 0, .int 0 0, .int 3 0, .ref 349, .bool true, .int 181 0, .ref 350, .none, .ref 351, .ref 352, .ref 353, .int 724 0, .int 220 0, .str "/claim/cut.py" 725])),
  (355, kF (sM 45 1) "Canvas.holds" .none "outlinemill.canvas" 691 354),
  (361, kO (.type "code") (.fields #[.str "get" 727, .str "Canvas.get" 728, .str "/claim/cut.py" 729, .int 223 0, .int 3 0, .int 0 0, .int 0 0, .int 3 0, .ref 356, .bool true, .int 181 0, .ref 357, .none, .ref 358, .ref 359, .ref 360, .int 733 0, .int 223 0, .str "/claim/cut.py" 734])),
  (362, kF (sM 45 2) "Canvas.get" .none "outlinemill.canvas" 691 361),
  (368, kO (.type "code") (.fields #[.str "put" 736, .str "Canvas.put" 737, .str "/claim/cut.py" 738, .int 226 0, .int 4 0, .int 0 0, .int 0 0, .int 3 0, .ref 363, .bool true, .int 181 0, .ref 364, .none, .ref 365, .ref 366, .ref 367, .int 743 0, .int 226 0, .str "/claim/cut.py" 744])),
  (369, kF (sM 45 3) "Canvas.put" .none "outlinemill.canvas" 691 368),
  (383, kO (.type "code") (.fields #[.str "places" 758, .str "Canvas.places" 759, .str "/claim/cut.py" 760, .int 237 0, .int 1 0, .int 0 0, .int 0 0, .int 3 0, .ref 380, .bool true, .int 181 0, .ref 381, .none, .none, .none, .ref 382, .int 761 0, .int 237 0, .str "/claim/cut.py" 762])),
  (384, kF (sM 45 6) "Canvas.places" .none "outlinemill.canvas" 691 383),
  (400, kO (.type "dict") (.dict #[kE P "__module__" 705 (.str "outlinemill.canvas" 691), kE P "__firstlineno__" 709 (.int 209 708), kE P "__init__" 717 (.ref 348), kE P "holds" 726 (.ref 355), kE P "get" 735 (.ref 362), kE P "put" 745 (.ref 369), kE P "fill" 751 (.ref 374), kE P "rows" 757 (.ref 379), kE P "places" 763 (.ref 384), kE P "like" 770 (.ref 391), kE P "take" 778 (.ref 398), kE P "__static_attributes__" 784 (.ref 399), kE P "__dict__" 786 (.ref 402), kE P "__weakref__" 788 (.ref 403), kE P "__doc__" 789 .none] 4)),
  (401, kC "Canvas" [.type "object"] [.ref 401, .type "object"] 400 "Canvas" true [] [] false none false #[none, none, some (.str "Canvas" 698), some (.str "Canvas" 706), some (.builtin "object.__new__"), some (.bool true)]),
  (416, kO (.type "code") (.fields #[.str "__init__" 808, .str "AlphaMap.__init__" 809, .str "/claim/cut.py" 810, .int 252 0, .int 5 0, .int 0 0, .int 0 0, .int 3 0, .ref 413, .bool true, .int 181 0, .ref 414, .none, .none, .none, .ref 415, .int 811 0, .int 252 0, .str "/claim/cut.py" 812])),
  (417, kF (sM 48 0) "AlphaMap.__init__" .none "outlinemill.clips" 792 416),
  (423, kO (.type "code") (.fields #[.str "is_in" 814, .str "AlphaMap.is_in" 815, .str "/claim/cut.py" 816, .int 261 0, .int 3 0, .int 0 0, .int 0 0, .int 3 0, .ref 418, .bool true, .int 181 0, .ref 419, .none, .ref 420, .ref 421, .ref 422, .int 820 0, .int 261 0, .str "/claim/cut.py" 821])),
  (424, kF (sM 48 1) "AlphaMap.is_in" .none "outlinemill.clips" 792 423),
  (430, kO (.type "code") (.fields #[.str "alpha" 823, .str "AlphaMap.alpha" 824, .str "/claim/cut.py" 825, .int 264 0, .int 3 0, .int 0 0, .int 0 0, .int 3 0, .ref 425, .bool true, .int 181 0, .ref 426, .none, .ref 427, .ref 428, .ref 429, .int 829 0, .int 264 0, .str "/claim/cut.py" 830])),
  (431, kF (sM 48 2) "AlphaMap.alpha" .none "outlinemill.clips" 792 430),
  (437, kO (.type "code") (.fields #[.str "put" 832, .str "AlphaMap.put" 833, .str "/claim/cut.py" 834, .int 267 0, .int 4 0, .int 0 0, .int 0 0, .int 3 0, .ref 432, .bool true, .int 181 0, .ref 433, .none, .ref 434, .ref 435, .ref 436, .int 839 0, .int 267 0, .str "/claim/cut.py" 840])),
  (438, kF (sM 48 3) "AlphaMap.put" .none "outlinemill.clips" 792 437),
  (440, kO (.type "dict") (.dict #[kE P "__module__" 803 (.str "outlinemill.clips" 792), kE P "__firstlineno__" 807 (.int 250 806), kE P "__init__" 813 (.ref 417), kE P "is_in" 822 (.ref 424), kE P "alpha" 831 (.ref 431), kE P "put" 841 (.ref 438), kE P "__static_attributes__" 847 (.ref 439), kE P "__dict__" 849 (.ref 442), kE P "__weakref__" 851 (.ref 443), kE P "__doc__" 852 .none] 4)),
  (441, kC "AlphaMap" [.type "object"] [.ref 441, .type "object"] 440 "AlphaMap" true [] [] false none false #[none, none, some (.str "AlphaMap" 796), some (.str "AlphaMap" 804), some (.builtin "object.__new__"), some (.bool true)]),
  (458, kO (.type "code") (.fields #[.str "__init__" 869, .str "Flat.__init__" 870, .str "/claim/cut.py" 871, .int 274 0, .int 2 0, .int 0 0, .int 0 0, .int 3 0, .ref 453, .bool true, .int 181 0, .ref 454, .none, .ref 455, .ref 456, .ref 457, .int 874 0, .int 274 0, .str "/claim/cut.py" 875])),
  (459, kF (sM 50 0) "Flat.__init__" .none "outlinemill.paints" 855 458),
  (465, kO (.type "code") (.fields #[.str "colour_at" 877, .str "Flat.colour_at" 878, .str "/claim/cut.py" 879, .int 277 0, .int 3 0, .int 0 0, .int 0 0, .int 3 0, .ref 460, .bool true, .int 181 0, .ref 461, .none, .ref 462, .ref 463, .ref 464, .int 883 0, .int 277 0, .str "/claim/cut.py" 884])),
  (466, kF (sM 50 1) "Flat.colour_at" .none "outlinemill.paints" 855 465),
  (468, kO (.type "dict") (.dict #[kE P "__module__" 864 (.str "outlinemill.paints" 855), kE P "__firstlineno__" 868 (.int 272 867), kE P "__init__" 876 (.ref 459), kE P "colour_at" 885 (.ref 466), kE P "__static_attributes__" 887 (.ref 467), kE P "__dict__" 889 (.ref 470), kE P "__weakref__" 891 (.ref 471), kE P "__doc__" 892 .none] 4)),
  (469, kC "Flat" [.type "object"] [.ref 469, .type "object"] 468 "Flat" true [] [] false none false #[none, none, some (.str "Flat" 857), some (.str "Flat" 865), some (.builtin "object.__new__"), some (.bool true)]),
  (479, kO (.type "code") (.fields #[.str "_law_pool" 897, .str "_law_pool" 898, .str "/claim/cut.py" 899, .int 280 0, .int 1 0, .int 0 0, .int 0 0, .int 3 0, .ref 474, .bool true, .int 181 0, .ref 475, .none, .ref 476, .ref 477, .ref 478, .int 903 0, .int 280 0, .str "/claim/cut.py" 904])),
  (480, kF (sA 52) "_law_pool" .none "law_on0246_01" 895 479),
  (486, kO (.type "code") (.fields #[.str "_law_take" 906, .str "_law_take" 907, .str "/claim/cut.py" 908, .int 284 0, .int 2 0, .int 0 0, .int 0 0, .int 3 0, .ref 481, .bool true, .int 181 0, .ref 482, .none, .ref 483, .ref 484, .ref 485, .int 912 0, .int 284 0, .str "/claim/cut.py" 913])),
  (487, kF (sA 53) "_law_take" .none "law_on0246_01" 895 486),
  (493, kO (.type "code") (.fields #[.str "_law_one" 915, .str "_law_one" 916, .str "/claim/cut.py" 917, .int 291 0, .int 2 0, .int 0 0, .int 0 0, .int 3 0, .ref 488, .bool true, .int 181 0, .ref 489, .none, .ref 490, .ref 491, .ref 492, .int 920 0, .int 291 0, .str "/claim/cut.py" 921])),
  (494, kF (sA 54) "_law_one" .none "law_on0246_01" 895 493),
  (500, kO (.type "code") (.fields #[.str "_law_contour" 923, .str "_law_contour" 924, .str "/claim/cut.py" 925, .int 293 0, .int 2 0, .int 0 0, .int 0 0, .int 3 0, .ref 495, .bool true, .int 181 0, .ref 496, .none, .ref 497, .ref 498, .ref 499, .int 932 0, .int 293 0, .str "/claim/cut.py" 933])),
  (501, kF (sA 55) "_law_contour" .none "law_on0246_01" 895 500),
  (507, kO (.type "code") (.fields #[.str "_law_wound" 935, .str "_law_wound" 936, .str "/claim/cut.py" 937, .int 303 0, .int 3 0, .int 0 0, .int 0 0, .int 3 0, .ref 502, .bool true, .int 181 0, .ref 503, .none, .ref 504, .ref 505, .ref 506, .int 949 0, .int 303 0, .str "/claim/cut.py" 950])),
  (508, kF (sA 56) "_law_wound" .none "law_on0246_01" 895 507),
  (514, kO (.type "code") (.fields #[.str "_law_times" 952, .str "_law_times" 953, .str "/claim/cut.py" 954, .int 313 0, .int 2 0, .int 0 0, .int 0 0, .int 3 0, .ref 509, .bool true, .int 181 0, .ref 510, .none, .ref 511, .ref 512, .ref 513, .int 957 0, .int 313 0, .str "/claim/cut.py" 958])),
  (515, kF (sA 57) "_law_times" .none "law_on0246_01" 895 514),
  (519, kO (.type "code") (.fields #[.str "_law_dot" 960, .str "_law_dot" 961, .str "/claim/cut.py" 962, .int 315 0, .int 6 0, .int 0 0, .int 0 0, .int 3 0, .ref 516, .bool true, .int 181 0, .ref 517, .none, .none, .none, .ref 518, .int 963 0, .int 315 0, .str "/claim/cut.py" 964])),
  (520, kF (sA 58) "_law_dot" .none "law_on0246_01" 895 519),
  (524, kO (.type "code") (.fields #[.str "_law_colour" 966, .str "_law_colour" 967, .str "/claim/cut.py" 968, .int 323 0, .int 1 0, .int 0 0, .int 0 0, .int 3 0, .ref 521, .bool true, .int 181 0, .ref 522, .none, .none, .none, .ref 523, .int 969 0, .int 323 0, .str "/claim/cut.py" 970])),
  (525, kF (sA 59) "_law_colour" .none "law_on0246_01" 895 524),
  (529, kO (.type "code") (.fields #[.str "_law_filled" 972, .str "_law_filled" 973, .str "/claim/cut.py" 974, .int 326 0, .int 3 0, .int 0 0, .int 0 0, .int 3 0, .ref 526, .bool true, .int 181 0, .ref 527, .none, .none, .none, .ref 528, .int 975 0, .int 326 0, .str "/claim/cut.py" 976])),
  (530, kF (sA 60) "_law_filled" .none "law_on0246_01" 895 529),
  (536, kO (.type "code") (.fields #[.str "_law_clip" 978, .str "_law_clip" 979, .str "/claim/cut.py" 980, .int 332 0, .int 2 0, .int 0 0, .int 0 0, .int 3 0, .ref 531, .bool true, .int 181 0, .ref 532, .none, .ref 533, .ref 534, .ref 535, .int 986 0, .int 332 0, .str "/claim/cut.py" 987])),
  (537, kF (sA 61) "_law_clip" .none "law_on0246_01" 895 536),
  (541, kO (.type "code") (.fields #[.str "law" 989, .str "law" 990, .str "/claim/cut.py" 991, .int 340 0, .int 1 0, .int 0 0, .int 0 0, .int 3 0, .ref 538, .bool true, .int 181 0, .ref 539, .none, .none, .none, .ref 540, .int 992 0, .int 340 0, .str "/claim/cut.py" 993])),
  (542, kF (sA 62) "law" .none "law_on0246_01" 895 541)]
end
section
noncomputable def viewQ : Program := PySem.W.view prog0 [0, 2, 3, 4, 6, 8, 9, 11, 12, 14, 15, 16, 17, 18, 19, 20, 21, 22, 24, 25, 26, 28, 30, 31, 32, 33, 35, 36, 38, 39, 40, 41, 42, 44, 45, 47, 48, 50, 52, 53, 54, 55, 56, 57, 58, 59, 60, 61, 62]
noncomputable def env0 : Env := { scope := prog0.main.scope, locals := mainNs, globals := mainNs, cells := [], code := .ref 13, frame := some 14 }
noncomputable abbrev pos0 : Pos := ⟨0, 0, 0, 0⟩
noncomputable abbrev ann0 : Option Value := some (.ref 6)
noncomputable abbrev body0 : List Stmt := behindTheImports prog0
noncomputable abbrev code0 : Code := .body body0 env0
noncomputable abbrev stack0 : List Frame := [topFrame pos0]
noncomputable def o11 : Obj := kO (.type "tuple") (.seq #[])
noncomputable def o12 : Obj := kO .none (.fields #[])
noncomputable def o13 : Obj := kO (.type "code") (.fields #[.str "<module>" 182, .str "<module>" 183, .str "/claim/cut.py" 184, .int 1 0, .int 0 0, .int 0 0, .int 0 0, .int 0 0, .ref 11, .bool false, .int 181 0, .ref 12, .none, .none, .none, .none, .int 185 0, .int 1 0, .str "/claim/cut.py" 186])
noncomputable def o14 : Obj := ⟨.type "frame", none, .plain, #[some (.ref 13), some (.ref 3), some (.ref 3), none, some (.str "__main__" 164), none, some (.ref 0)]⟩
noncomputable def objs0 (P : Params) : List Obj := (boot_heap P).objs.toList ++ [o11, o12, o13, o14]
noncomputable def halves : List Obj → List Obj × List Obj
  | [] => ([], [])
  | a :: l => (a :: (halves l).2, (halves l).1)
noncomputable def treeOf : Nat → List Obj → BT
  | 0, _ => .nil
  | _ + 1, [] => .nil
  | n + 1, o :: l => .node o (treeOf n (halves l).1) (treeOf n (halves l).2)
noncomputable def tree0 (P : Params) : BT := treeOf 5 (objs0 P)
noncomputable abbrev sh0 (w : World) (os : OsState) : Shared := ⟨boot_heap w.params, #[], boot_drawn, boot_toks, os⟩
noncomputable abbrev sh1 (w : World) (os : OsState) : SharedT := ⟨tree0 w.params, 15, {}, #[], {}, 187, os⟩
noncomputable def looks0 (w : World) (q : Program) (loose : List Str) (Xt : Shared → Bool) {α : Type} (Yf : Shared → α) (s : Shared) :=
  (staticsOk (importedModules prog0.main.body) (boot_heap w.params) s.heap && namesBound prog0 s.heap && gensDone s && laidKept (boot_heap w.params) s.heap, openSeen q loose (importedModules prog0.main.body) Xt true s, Yf s)
noncomputable def kT (l : List Value) : Obj := kO (.type "tuple") (.seq l.toArray)
noncomputable def kN (l : List Value) : Obj := kO .none (.fields l.toArray)
noncomputable def kP (s : Stmt) (q : Str) : Obj := match s with
  | .FunctionDef name args body _ _ _ scope _ _ _ => ⟨.none, none, .func ⟨name, q, args, .stmts body, scope, 0, [], .none, .none, .none, .none, none, .none, .none, 0⟩, #[]⟩
  | _ => default
noncomputable def kk (P : Params) (a : Nat) : Obj := ((heapK P).lookup a).getD default
noncomputable def objsC (P : Params) : List Obj := [
  boot_o_0 P,
  boot_o_1 P,
  kO .none (.dict #[kE P "type.__subclasses__.Exception.0" 261 (.int 62 0), kE P "type.__subclasses__.Exception.n" 262 (.int 1 0)] 2),
  kk P 3,
  boot_o_4 P,
  boot_o_5 P,
  boot_o_6 P,
  boot_o_7 P,
  boot_o_8 P,
  boot_o_9 P,
  boot_o_10 P,
  kT [],
  kN [.int 1 0, .int 0 0, .ref 20, .int 6 0, .int 0 0, .ref 27, .int 8 0, .int 0 0, .ref 32, .int 12 0, .int 0 0, .ref 37, .int 20 0, .int 0 0, .ref 44, .int 23 0, .int 0 0, .ref 51, .int 27 0, .int 0 0, .ref 71, .int 31 0, .int 0 0, .ref 84, .int 33 0, .int 0 0, .ref 91, .int 37 0, .int 0 0, .ref 98, .int 39 0, .int 0 0, .ref 105, .int 42 0, .int 0 0, .ref 112, .int 45 0, .int 0 0, .ref 119, .int 51 0, .int 0 0, .ref 126, .int 63 0, .int 0 0, .ref 133, .int 68 0, .int 0 0, .ref 140, .int 86 0, .int 0 0, .ref 182, .int 92 0, .int 0 0, .ref 189, .int 102 0, .int 0 0, .ref 197, .int 107 0, .int 0 0, .ref 202, .int 111 0, .int 0 0, .ref 209, .int 113 0, .int 0 0, .ref 216, .int 163 0, .int 0 0, .ref 293, .int 170 0, .int 0 0, .ref 300, .int 177 0, .int 0 0, .ref 307, .int 185 0, .int 0 0, .ref 314, .int 187 0, .int 0 0, .ref 321, .int 190 0, .int 0 0, .ref 326, .int 194 0, .int 0 0, .ref 333, .int 209 0, .int 0 0, .ref 341, .int 250 0, .int 0 0, .ref 411, .int 272 0, .int 0 0, .ref 451, .int 280 0, .int 0 0, .ref 479, .int 284 0, .int 0 0, .ref 486, .int 291 0, .int 0 0, .ref 493, .int 293 0, .int 0 0, .ref 500, .int 303 0, .int 0 0, .ref 507, .int 313 0, .int 0 0, .ref 514, .int 315 0, .int 0 0, .ref 519, .int 323 0, .int 0 0, .ref 524, .int 326 0, .int 0 0, .ref 529, .int 332 0, .int 0 0, .ref 536, .int 340 0, .int 0 0, .ref 541],
  kO (.type "code") (.fields #[.str "<module>" 182, .str "<module>" 183, .str "/claim/cut.py" 184, .int 1 0, .int 0 0, .int 0 0, .int 0 0, .int 0 0, .ref 11, .bool false, .int 181 0, .ref 12, .none, .none, .none, .none, .int 185 0, .int 1 0, .str "/claim/cut.py" 186]),
  ⟨(.type "frame"), none, .plain, #[some (.ref 13), some (.ref 3), some (.ref 3), none, some (.str "__main__" 164), none, some (.ref 0)]⟩,
  kT [],
  kN [],
  kT [.str "k" 190],
  kT [],
  kP (sA 0) "_wall",
  kO (.type "code") (.fields #[.str "_wall" 187, .str "_wall" 188, .str "/claim/cut.py" 189, .int 1 0, .int 1 0, .int 0 0, .int 0 0, .int 3 0, .ref 15, .bool true, .int 181 0, .ref 16, .none, .ref 17, .ref 18, .ref 19, .int 191 0, .int 1 0, .str "/claim/cut.py" 192]),
  kF (sA 0) "_wall" .none "__main__" 164 20,
  kT [],
  kN [],
  kT [.str "one" 201, .str "first" 202, .str "other" 203, .str "second" 204],
  kT [],
  kP (sA 3) "mixed",
  kk P 27,
  kk P 28,
  kT [],
  kN [],
  kP (sA 4) "over",
  kk P 32,
  kk P 33,
  kT [],
  kN [],
  kP (sA 6) "box_of",
  kk P 37,
  kk P 38,
  kT [],
  kN [],
  kT [.str "n" 229, .str "alpha" 230],
  kT [],
  kP (sA 9) "weighted",
  kk P 44,
  kk P 45,
  kT [.type "Exception"],
  kO (.type "builtin_function_or_method") (.fields #[.builtin "type.__prepare__", .type "type"]),
  kO (.type "dict") (.dict #[kE P "__module__" 243 (.str "outlinemill.errors" 234), kE P "__qualname__" 245 (.str "MillError" 244), kE P "__firstlineno__" 247 (.int 23 246), kE P "__init__" 255 (.ref 59), kE P "__static_attributes__" 257 (.ref 60)] 5),
  kT [],
  kN [.int 25 0, .int 4 0, .ref 58],
  kO (.type "code") (.fields #[.str "MillError" 238, .str "MillError" 239, .str "/claim/cut.py" 240, .int 23 0, .int 0 0, .int 0 0, .int 0 0, .int 0 0, .ref 49, .bool false, .int 181 0, .ref 50, .none, .none, .none, .none, .int 241 0, .int 23 0, .str "/claim/cut.py" 242]),
  ⟨(.type "frame"), none, .plain, #[some (.ref 51), some (.ref 3), some (.ref 48), none, some (.str "outlinemill.errors" 234), none, some (.ref 0)]⟩,
  kT [],
  kN [],
  kT [.str "self" 251, .str "message" 252],
  kT [],
  kP (sM 11 0) "MillError.__init__",
  kO (.type "code") (.fields #[.str "__init__" 248, .str "MillError.__init__" 249, .str "/claim/cut.py" 250, .int 25 0, .int 2 0, .int 0 0, .int 0 0, .int 3 0, .ref 53, .bool true, .int 181 0, .ref 54, .none, .ref 55, .ref 56, .ref 57, .int 253 0, .int 25 0, .str "/claim/cut.py" 254]),
  kF (sM 11 0) "MillError.__init__" .none "outlinemill.errors" 234 58,
  kT [.str "message" 256],
  kO (.type "dict") (.dict #[kE P "__module__" 243 (.str "outlinemill.errors" 234), kE P "__firstlineno__" 247 (.int 23 246), kE P "__init__" 255 (.ref 59), kE P "__static_attributes__" 257 (.ref 60), kE P "__weakref__" 259 (.ref 63), kE P "__doc__" 260 .none] 3),
  kC "MillError" [.type "Exception"] [.ref 62, .type "Exception", .type "BaseException", .type "object"] 61 "MillError" true [] [.ref 75] false none false #[some (.ref 46), none, some (.str "MillError" 236), some (.str "MillError" 244), some (.builtin "Exception.__new__"), some (.bool true)],
  kO (.type "getset_descriptor") (.fields #[.str "__weakref__" 258, .ref 62, .builtin "ExceptionGroup.__weakref__", .none]),
  kO (.type "super") (.fields #[.ref 62, .ref 62, .ref 62]),
  kO (.type "builtin_function_or_method") (.fields #[.builtin "object.__init_subclass__", .ref 62]),
  kT [.ref 62],
  kO (.type "builtin_function_or_method") (.fields #[.builtin "type.__prepare__", .type "type"]),
  kO (.type "dict") (.dict #[kE P "__module__" 272 (.str "outlinemill.errors" 234), kE P "__qualname__" 274 (.str "SizeFault" 273), kE P "__firstlineno__" 276 (.int 27 275), kE P "__static_attributes__" 277 (.ref 73)] 4),
  kT [],
  kN [],
  kO (.type "code") (.fields #[.str "SizeFault" 267, .str "SizeFault" 268, .str "/claim/cut.py" 269, .int 27 0, .int 0 0, .int 0 0, .int 0 0, .int 0 0, .ref 69, .bool false, .int 181 0, .ref 70, .none, .none, .none, .none, .int 270 0, .int 27 0, .str "/claim/cut.py" 271]),
  ⟨(.type "frame"), none, .plain, #[some (.ref 71), some (.ref 3), some (.ref 68), none, some (.str "outlinemill.errors" 234), none, some (.ref 0)]⟩,
  kT [],
  kO (.type "dict") (.dict #[kE P "__module__" 272 (.str "outlinemill.errors" 234), kE P "__firstlineno__" 276 (.int 27 275), kE P "__static_attributes__" 277 (.ref 73), kE P "__doc__" 278 .none] 2),
  kC "SizeFault" [.ref 62] [.ref 75, .ref 62, .type "Exception", .type "BaseException", .type "object"] 74 "SizeFault" true [] [] false none false #[some (.ref 66), none, some (.str "SizeFault" 265), some (.str "SizeFault" 273), some (.builtin "Exception.__new__"), some (.bool true)],
  kO (.type "super") (.fields #[.ref 75, .ref 75, .ref 75]),
  kO (.type "builtin_function_or_method") (.fields #[.builtin "object.__init_subclass__", .ref 75]),
  kk P 78,
  kT [],
  kN [],
  kT [.str "winding" 289, .str "rule" 290],
  kT [],
  kP (sA 15) "is_inside",
  kk P 84,
  kk P 85,
  kT [],
  kN [],
  kT [.str "fine" 297, .str "grain" 298],
  kT [],
  kP (sA 16) "step_of",
  kk P 91,
  kk P 92,
  kT [],
  kN [],
  kT [.str "top" 305, .str "bottom" 306],
  kT [],
  kP (sA 17) "ceiling",
  kk P 98,
  kk P 99,
  kT [],
  kN [],
  kT [.str "place" 313, .str "step" 314, .str "top" 315, .str "bottom" 316],
  kT [],
  kP (sA 18) "column_behind",
  kk P 105,
  kk P 106,
  kT [],
  kN [],
  kT [.str "rule" 323],
  kT [],
  kP (sA 19) "check_rule",
  kk P 112,
  kk P 113,
  kT [],
  kN [],
  kT [.str "sides" 330, .str "y" 331, .str "step" 332, .str "found" 333, .str "side" 334],
  kT [],
  kP (sA 20) "steps_of_row",
  kk P 119,
  kk P 120,
  kT [],
  kN [],
  kT [.str "changes" 341, .str "rule" 342, .str "found" 343, .str "winding" 344, .str "begin" 345, .str "at" 346, .str "column" 347, .str "way" 348],
  kT [],
  kP (sA 21) "spans_by",
  kk P 126,
  kk P 127,
  kT [],
  kN [],
  kT [.str "sides" 355, .str "row" 356, .str "rule" 357, .str "fine" 358, .str "grain" 359, .str "step" 360],
  kT [],
  kP (sA 22) "sample_spans",
  kk P 133,
  kk P 134,
  kT [],
  kO (.type "builtin_function_or_method") (.fields #[.builtin "type.__prepare__", .type "type"]),
  kO (.type "dict") (.dict #[kE P "__module__" 373 (.str "outlinemill.sides" 364), kE P "__qualname__" 375 (.str "Side" 374), kE P "__firstlineno__" 377 (.int 68 376), kE P "__init__" 389 (.ref 148), kE P "row" 396 (.ref 155), kE P "covers" 404 (.ref 162), kE P "place_at" 413 (.ref 169), kE P "__static_attributes__" 419 (.ref 170)] 8),
  kT [],
  kN [.int 70 0, .int 4 0, .ref 147, .int 77 0, .int 4 0, .ref 154, .int 80 0, .int 4 0, .ref 161, .int 83 0, .int 4 0, .ref 168],
  kO (.type "code") (.fields #[.str "Side" 368, .str "Side" 369, .str "/claim/cut.py" 370, .int 68 0, .int 0 0, .int 0 0, .int 0 0, .int 0 0, .ref 138, .bool false, .int 181 0, .ref 139, .none, .none, .none, .none, .int 371 0, .int 68 0, .str "/claim/cut.py" 372]),
  ⟨(.type "frame"), none, .plain, #[some (.ref 140), some (.ref 3), some (.ref 137), none, some (.str "outlinemill.sides" 364), none, some (.ref 0)]⟩,
  kT [],
  kN [],
  kT [.str "self" 381, .str "x1" 382, .str "y1" 383, .str "x2" 384, .str "y2" 385, .str "way" 386],
  kT [],
  kP (sM 24 0) "Side.__init__",
  kk P 147,
  kk P 148,
  kT [],
  kN [],
  kT [.str "self" 393],
  kT [],
  kP (sM 24 1) "Side.row",
  kO (.type "code") (.fields #[.str "row" 390, .str "Side.row" 391, .str "/claim/cut.py" 392, .int 77 0, .int 1 0, .int 0 0, .int 0 0, .int 3 0, .ref 149, .bool true, .int 181 0, .ref 150, .none, .ref 151, .ref 152, .ref 153, .int 394 0, .int 77 0, .str "/claim/cut.py" 395]),
  kF (sM 24 1) "Side.row" .none "outlinemill.sides" 364 154,
  kT [],
  kN [],
  kT [.str "self" 400, .str "y" 401],
  kT [],
  kP (sM 24 2) "Side.covers",
  kk P 161,
  kk P 162,
  kT [],
  kN [],
  kT [.str "self" 408, .str "y" 409, .str "high" 410],
  kT [],
  kP (sM 24 3) "Side.place_at",
  kk P 168,
  kk P 169,
  kT [.str "way" 414, .str "x1" 415, .str "x2" 416, .str "y1" 417, .str "y2" 418],
  kk P 171,
  kk P 172,
  kO (.type "getset_descriptor") (.fields #[.str "__dict__" 420, .ref 172, .builtin "function.__dict__", .builtin "function.__dict__#set"]),
  kO (.type "getset_descriptor") (.fields #[.str "__weakref__" 422, .ref 172, .builtin "ExceptionGroup.__weakref__", .none]),
  kO (.type "super") (.fields #[.ref 172, .ref 172, .ref 172]),
  kO (.type "builtin_function_or_method") (.fields #[.builtin "object.__init_subclass__", .ref 172]),
  kT [],
  kN [],
  kT [.str "one" 430, .str "other" 431],
  kT [],
  kP (sA 25) "side_between",
  kk P 182,
  kk P 183,
  kT [],
  kN [],
  kT [.str "spots" 438, .str "is_closed" 439, .str "pairs" 440, .str "found" 441, .str "one" 442, .str "other" 443, .str "side" 444],
  kT [],
  kP (sA 26) "sides_of_contour",
  kk P 189,
  kk P 190,
  kk P 191,
  kT [],
  kN [],
  kT [.str "contours" 451, .str "is_closing" 452, .str "found" 453, .str "spots" 454, .str "is_closed" 455],
  kT [],
  kP (sA 27) "sides_of",
  kk P 197,
  kk P 198,
  kT [],
  kN [],
  kP (sA 28) "sides_between",
  kk P 202,
  kk P 203,
  kT [],
  kN [],
  kT [.str "top" 472, .str "bottom" 473],
  kT [],
  kP (sA 31) "rounded_share",
  kk P 209,
  kk P 210,
  kT [],
  kO (.type "builtin_function_or_method") (.fields #[.builtin "type.__prepare__", .type "type"]),
  kO (.type "dict") (.dict #[kE P "__module__" 484 (.str "outlinemill.mask" 465), kE P "__qualname__" 486 (.str "Mask" 485), kE P "__firstlineno__" 488 (.int 113 487), kE P "__init__" 500 (.ref 224), kE P "most" 507 (.ref 231), kE P "place" 518 (.ref 238), kE P "count" 528 (.ref 245), kE P "alpha" 537 (.ref 252), kE P "add" 556 (.ref 259), kE P "full" 563 (.ref 266), kE P "multiplied" 571 (.ref 273), kE P "is_empty" 578 (.ref 280), kE P "__static_attributes__" 585 (.ref 281)] 13),
  kT [],
  kN [.int 115 0, .int 4 0, .ref 223, .int 125 0, .int 4 0, .ref 230, .int 128 0, .int 4 0, .ref 237, .int 134 0, .int 4 0, .ref 244, .int 138 0, .int 4 0, .ref 251, .int 141 0, .int 4 0, .ref 258, .int 155 0, .int 4 0, .ref 265, .int 158 0, .int 4 0, .ref 272, .int 161 0, .int 4 0, .ref 279],
  kO (.type "code") (.fields #[.str "Mask" 479, .str "Mask" 480, .str "/claim/cut.py" 481, .int 113 0, .int 0 0, .int 0 0, .int 0 0, .int 0 0, .ref 214, .bool false, .int 181 0, .ref 215, .none, .none, .none, .none, .int 482 0, .int 113 0, .str "/claim/cut.py" 483]),
  ⟨(.type "frame"), none, .plain, #[some (.ref 216), some (.ref 3), some (.ref 213), none, some (.str "outlinemill.mask" 465), none, some (.ref 0)]⟩,
  kT [],
  kN [],
  kT [.str "self" 492, .str "left" 493, .str "top" 494, .str "width" 495, .str "height" 496, .str "fine" 497],
  kT [],
  kP (sM 32 0) "Mask.__init__",
  kk P 223,
  kk P 224,
  kT [],
  kN [],
  kT [.str "self" 504],
  kT [],
  kP (sM 32 1) "Mask.most",
  kk P 230,
  kk P 231,
  kT [],
  kN [],
  kT [.str "self" 511, .str "x" 512, .str "y" 513, .str "column" 514, .str "row" 515],
  kT [],
  kP (sM 32 2) "Mask.place",
  kk P 237,
  kk P 238,
  kT [],
  kN [],
  kT [.str "self" 522, .str "x" 523, .str "y" 524, .str "at" 525],
  kT [],
  kP (sM 32 3) "Mask.count",
  kk P 244,
  kk P 245,
  kT [],
  kN [],
  kT [.str "self" 532, .str "x" 533, .str "y" 534],
  kT [],
  kP (sM 32 4) "Mask.alpha",
  kk P 251,
  kk P 252,
  kT [],
  kN [],
  kT [.str "self" 541, .str "row" 542, .str "spans" 543, .str "y" 544, .str "first" 545, .str "last" 546, .str "base" 547, .str "begin" 548, .str "end" 549, .str "column" 550, .str "limit" 551, .str "x" 552, .str "behind" 553],
  kT [],
  kP (sM 32 5) "Mask.add",
  kk P 258,
  kk P 259,
  kT [],
  kN [],
  kT [.str "self" 560],
  kT [],
  kP (sM 32 6) "Mask.full",
  kO (.type "code") (.fields #[.str "full" 557, .str "Mask.full" 558, .str "/claim/cut.py" 559, .int 155 0, .int 1 0, .int 0 0, .int 0 0, .int 3 0, .ref 260, .bool true, .int 181 0, .ref 261, .none, .ref 262, .ref 263, .ref 264, .int 561 0, .int 155 0, .str "/claim/cut.py" 562]),
  kF (sM 32 6) "Mask.full" .none "outlinemill.mask" 465 265,
  kT [],
  kN [],
  kT [.str "self" 567, .str "other" 568],
  kT [],
  kP (sM 32 7) "Mask.multiplied",
  kO (.type "code") (.fields #[.str "multiplied" 564, .str "Mask.multiplied" 565, .str "/claim/cut.py" 566, .int 158 0, .int 2 0, .int 0 0, .int 0 0, .int 3 0, .ref 267, .bool true, .int 181 0, .ref 268, .none, .ref 269, .ref 270, .ref 271, .int 569 0, .int 158 0, .str "/claim/cut.py" 570]),
  kF (sM 32 7) "Mask.multiplied" .none "outlinemill.mask" 465 272,
  kT [],
  kN [],
  kT [.str "self" 575],
  kT [],
  kP (sM 32 8) "Mask.is_empty",
  kO (.type "code") (.fields #[.str "is_empty" 572, .str "Mask.is_empty" 573, .str "/claim/cut.py" 574, .int 161 0, .int 1 0, .int 0 0, .int 0 0, .int 3 0, .ref 274, .bool true, .int 181 0, .ref 275, .none, .ref 276, .ref 277, .ref 278, .int 576 0, .int 161 0, .str "/claim/cut.py" 577]),
  kF (sM 32 8) "Mask.is_empty" .none "outlinemill.mask" 465 279,
  kT [.str "counts" 579, .str "fine" 580, .str "height" 581, .str "left" 582, .str "top" 583, .str "width" 584],
  kk P 282,
  kk P 283,
  kO (.type "getset_descriptor") (.fields #[.str "__dict__" 586, .ref 283, .builtin "function.__dict__", .builtin "function.__dict__#set"]),
  kO (.type "getset_descriptor") (.fields #[.str "__weakref__" 588, .ref 283, .builtin "ExceptionGroup.__weakref__", .none]),
  kO (.type "super") (.fields #[.ref 283, .ref 283, .ref 283]),
  kO (.type "builtin_function_or_method") (.fields #[.builtin "object.__init_subclass__", .ref 283]),
  kT [],
  kN [],
  kT [.str "contours" 596, .str "rule" 597, .str "left" 598, .str "top" 599, .str "width" 600, .str "height" 601, .str "fine" 602, .str "grain" 603, .str "found" 604, .str "sides" 605, .str "row" 606],
  kT [],
  kP (sA 33) "mask_of",
  kk P 293,
  kk P 294,
  kT [],
  kN [],
  kT [.str "one" 615, .str "other" 616, .str "left" 617, .str "top" 618, .str "right" 619, .str "bottom" 620],
  kT [],
  kP (sA 35) "common_tile",
  kk P 300,
  kk P 301,
  kT [],
  kN [],
  kT [.str "box" 627, .str "grain" 628, .str "left" 629, .str "top" 630, .str "right" 631, .str "bottom" 632],
  kT [],
  kP (sA 36) "tile_of_box",
  kk P 307,
  kk P 308,
  kT [],
  kN [],
  kT [.str "canvas" 643],
  kT [],
  kP (sA 39) "rectangle_of",
  kk P 314,
  kk P 315,
  kT [],
  kN [],
  kT [.str "alpha" 650, .str "opacity" 651, .str "clip" 652, .str "x" 653, .str "y" 654, .str "told" 655],
  kT [],
  kP (sA 40) "share",
  kk P 321,
  kk P 322,
  kT [],
  kN [],
  kP (sA 41) "thinned",
  kk P 326,
  kk P 327,
  kT [],
  kN [],
  kT [.str "canvas" 668, .str "op" 669, .str "fine" 670, .str "grain" 671, .str "word" 672, .str "contours" 673, .str "rule" 674, .str "paint" 675, .str "opacity" 676, .str "clip" 677, .str "tile" 678, .str "part" 679, .str "left" 680, .str "top" 681, .str "width" 682, .str "height" 683, .str "mask" 684, .str "y" 685, .str "x" 686, .str "alpha" 687],
  kT [],
  kP (sA 42) "paint_fill",
  kk P 333,
  kk P 334,
  kk P 335,
  kT [],
  kO (.type "builtin_function_or_method") (.fields #[.builtin "type.__prepare__", .type "type"]),
  kO (.type "dict") (.dict #[kE P "__module__" 705 (.str "outlinemill.canvas" 691), kE P "__qualname__" 707 (.str "Canvas" 706), kE P "__firstlineno__" 709 (.int 209 708), kE P "__init__" 717 (.ref 348), kE P "holds" 726 (.ref 355), kE P "get" 735 (.ref 362), kE P "put" 745 (.ref 369), kE P "fill" 751 (.ref 374), kE P "rows" 757 (.ref 379), kE P "places" 763 (.ref 384), kE P "like" 770 (.ref 391), kE P "take" 778 (.ref 398), kE P "__static_attributes__" 784 (.ref 399)] 13),
  kT [],
  kN [.int 211 0, .int 4 0, .ref 347, .int 220 0, .int 4 0, .ref 354, .int 223 0, .int 4 0, .ref 361, .int 226 0, .int 4 0, .ref 368, .int 231 0, .int 4 0, .ref 373, .int 234 0, .int 4 0, .ref 378, .int 237 0, .int 4 0, .ref 383, .int 243 0, .int 4 0, .ref 390, .int 246 0, .int 4 0, .ref 397],
  kO (.type "code") (.fields #[.str "Canvas" 700, .str "Canvas" 701, .str "/claim/cut.py" 702, .int 209 0, .int 0 0, .int 0 0, .int 0 0, .int 0 0, .ref 339, .bool false, .int 181 0, .ref 340, .none, .none, .none, .none, .int 703 0, .int 209 0, .str "/claim/cut.py" 704]),
  ⟨(.type "frame"), none, .plain, #[some (.ref 341), some (.ref 3), some (.ref 338), none, some (.str "outlinemill.canvas" 691), none, some (.ref 0)]⟩,
  kk P 343,
  kT [],
  kN [],
  kP (sM 45 0) "Canvas.__init__",
  kk P 347,
  kk P 348,
  kT [],
  kN [],
  kT [.str "self" 721, .str "x" 722, .str "y" 723],
  kT [],
  kP (sM 45 1) "Canvas.holds",
  kk P 354,
  kk P 355,
  kT [],
  kN [],
  kT [.str "self" 730, .str "x" 731, .str "y" 732],
  kT [],
  kP (sM 45 2) "Canvas.get",
  kk P 361,
  kk P 362,
  kT [],
  kN [],
  kT [.str "self" 739, .str "x" 740, .str "y" 741, .str "colour" 742],
  kT [],
  kP (sM 45 3) "Canvas.put",
  kk P 368,
  kk P 369,
  kT [],
  kN [],
  kP (sM 45 4) "Canvas.fill",
  kO (.type "code") (.fields #[.str "fill" 746, .str "Canvas.fill" 747, .str "/claim/cut.py" 748, .int 231 0, .int 2 0, .int 0 0, .int 0 0, .int 3 0, .ref 370, .bool true, .int 181 0, .ref 371, .none, .none, .none, .ref 372, .int 749 0, .int 231 0, .str "/claim/cut.py" 750]),
  kF (sM 45 4) "Canvas.fill" .none "outlinemill.canvas" 691 373,
  kT [],
  kN [],
  kP (sM 45 5) "Canvas.rows",
  kO (.type "code") (.fields #[.str "rows" 752, .str "Canvas.rows" 753, .str "/claim/cut.py" 754, .int 234 0, .int 1 0, .int 0 0, .int 0 0, .int 3 0, .ref 375, .bool true, .int 181 0, .ref 376, .none, .none, .none, .ref 377, .int 755 0, .int 234 0, .str "/claim/cut.py" 756]),
  kF (sM 45 5) "Canvas.rows" .none "outlinemill.canvas" 691 378,
  kT [],
  kN [],
  kP (sM 45 6) "Canvas.places",
  kk P 383,
  kk P 384,
  kT [],
  kN [],
  kT [.str "self" 767],
  kT [],
  kP (sM 45 7) "Canvas.like",
  kO (.type "code") (.fields #[.str "like" 764, .str "Canvas.like" 765, .str "/claim/cut.py" 766, .int 243 0, .int 1 0, .int 0 0, .int 0 0, .int 3 0, .ref 385, .bool true, .int 181 0, .ref 386, .none, .ref 387, .ref 388, .ref 389, .int 768 0, .int 243 0, .str "/claim/cut.py" 769]),
  kF (sM 45 7) "Canvas.like" .none "outlinemill.canvas" 691 390,
  kT [],
  kN [],
  kT [.str "self" 774, .str "other" 775],
  kT [],
  kP (sM 45 8) "Canvas.take",
  kO (.type "code") (.fields #[.str "take" 771, .str "Canvas.take" 772, .str "/claim/cut.py" 773, .int 246 0, .int 2 0, .int 0 0, .int 0 0, .int 3 0, .ref 392, .bool true, .int 181 0, .ref 393, .none, .ref 394, .ref 395, .ref 396, .int 776 0, .int 246 0, .str "/claim/cut.py" 777]),
  kF (sM 45 8) "Canvas.take" .none "outlinemill.canvas" 691 397,
  kT [.str "cells" 779, .str "height" 780, .str "left" 781, .str "top" 782, .str "width" 783],
  kk P 400,
  kk P 401,
  kO (.type "getset_descriptor") (.fields #[.str "__dict__" 785, .ref 401, .builtin "function.__dict__", .builtin "function.__dict__#set"]),
  kO (.type "getset_descriptor") (.fields #[.str "__weakref__" 787, .ref 401, .builtin "ExceptionGroup.__weakref__", .none]),
  kO (.type "super") (.fields #[.ref 401, .ref 401, .ref 401]),
  kO (.type "builtin_function_or_method") (.fields #[.builtin "object.__init_subclass__", .ref 401]),
  kT [],
  kO (.type "builtin_function_or_method") (.fields #[.builtin "type.__prepare__", .type "type"]),
  kO (.type "dict") (.dict #[kE P "__module__" 803 (.str "outlinemill.clips" 792), kE P "__qualname__" 805 (.str "AlphaMap" 804), kE P "__firstlineno__" 807 (.int 250 806), kE P "__init__" 813 (.ref 417), kE P "is_in" 822 (.ref 424), kE P "alpha" 831 (.ref 431), kE P "put" 841 (.ref 438), kE P "__static_attributes__" 847 (.ref 439)] 8),
  kT [],
  kN [.int 252 0, .int 4 0, .ref 416, .int 261 0, .int 4 0, .ref 423, .int 264 0, .int 4 0, .ref 430, .int 267 0, .int 4 0, .ref 437],
  kO (.type "code") (.fields #[.str "AlphaMap" 798, .str "AlphaMap" 799, .str "/claim/cut.py" 800, .int 250 0, .int 0 0, .int 0 0, .int 0 0, .int 0 0, .ref 409, .bool false, .int 181 0, .ref 410, .none, .none, .none, .none, .int 801 0, .int 250 0, .str "/claim/cut.py" 802]),
  ⟨(.type "frame"), none, .plain, #[some (.ref 411), some (.ref 3), some (.ref 408), none, some (.str "outlinemill.clips" 792), none, some (.ref 0)]⟩,
  kT [],
  kN [],
  kP (sM 48 0) "AlphaMap.__init__",
  kk P 416,
  kk P 417,
  kT [],
  kN [],
  kT [.str "self" 817, .str "x" 818, .str "y" 819],
  kT [],
  kP (sM 48 1) "AlphaMap.is_in",
  kk P 423,
  kk P 424,
  kT [],
  kN [],
  kT [.str "self" 826, .str "x" 827, .str "y" 828],
  kT [],
  kP (sM 48 2) "AlphaMap.alpha",
  kk P 430,
  kk P 431,
  kT [],
  kN [],
  kT [.str "self" 835, .str "x" 836, .str "y" 837, .str "alpha" 838],
  kT [],
  kP (sM 48 3) "AlphaMap.put",
  kk P 437,
  kk P 438,
  kT [.str "alphas" 842, .str "height" 843, .str "left" 844, .str "top" 845, .str "width" 846],
  kk P 440,
  kk P 441,
  kO (.type "getset_descriptor") (.fields #[.str "__dict__" 848, .ref 441, .builtin "function.__dict__", .builtin "function.__dict__#set"]),
  kO (.type "getset_descriptor") (.fields #[.str "__weakref__" 850, .ref 441, .builtin "ExceptionGroup.__weakref__", .none]),
  kO (.type "super") (.fields #[.ref 441, .ref 441, .ref 441]),
  kO (.type "builtin_function_or_method") (.fields #[.builtin "object.__init_subclass__", .ref 441]),
  kT [],
  kO (.type "builtin_function_or_method") (.fields #[.builtin "type.__prepare__", .type "type"]),
  kO (.type "dict") (.dict #[kE P "__module__" 864 (.str "outlinemill.paints" 855), kE P "__qualname__" 866 (.str "Flat" 865), kE P "__firstlineno__" 868 (.int 272 867), kE P "__init__" 876 (.ref 459), kE P "colour_at" 885 (.ref 466), kE P "__static_attributes__" 887 (.ref 467)] 6),
  kT [],
  kN [.int 274 0, .int 4 0, .ref 458, .int 277 0, .int 4 0, .ref 465],
  kO (.type "code") (.fields #[.str "Flat" 859, .str "Flat" 860, .str "/claim/cut.py" 861, .int 272 0, .int 0 0, .int 0 0, .int 0 0, .int 0 0, .ref 449, .bool false, .int 181 0, .ref 450, .none, .none, .none, .none, .int 862 0, .int 272 0, .str "/claim/cut.py" 863]),
  ⟨(.type "frame"), none, .plain, #[some (.ref 451), some (.ref 3), some (.ref 448), none, some (.str "outlinemill.paints" 855), none, some (.ref 0)]⟩,
  kT [],
  kN [],
  kT [.str "self" 872, .str "colour" 873],
  kT [],
  kP (sM 50 0) "Flat.__init__",
  kk P 458,
  kk P 459,
  kT [],
  kN [],
  kT [.str "self" 880, .str "x" 881, .str "y" 882],
  kT [],
  kP (sM 50 1) "Flat.colour_at",
  kk P 465,
  kk P 466,
  kT [.str "colour" 886],
  kk P 468,
  kk P 469,
  kO (.type "getset_descriptor") (.fields #[.str "__dict__" 888, .ref 469, .builtin "function.__dict__", .builtin "function.__dict__#set"]),
  kO (.type "getset_descriptor") (.fields #[.str "__weakref__" 890, .ref 469, .builtin "ExceptionGroup.__weakref__", .none]),
  kO (.type "super") (.fields #[.ref 469, .ref 469, .ref 469]),
  kO (.type "builtin_function_or_method") (.fields #[.builtin "object.__init_subclass__", .ref 469]),
  kT [],
  kN [],
  kT [.str "script" 900, .str "script_cell" 901, .str "large" 902],
  kT [],
  kP (sA 52) "_law_pool",
  kk P 479,
  kk P 480,
  kT [],
  kN [],
  kT [.str "source" 909, .str "top" 910, .str "digit" 911],
  kT [],
  kP (sA 53) "_law_take",
  kk P 486,
  kk P 487,
  kT [],
  kN [],
  kT [.str "source" 918, .str "things" 919],
  kT [],
  kP (sA 54) "_law_one",
  kk P 493,
  kk P 494,
  kT [],
  kN [],
  kT [.str "source" 926, .str "canvas" 927, .str "spots" 928, .str "turn" 929, .str "across" 930, .str "point_now" 931],
  kT [],
  kP (sA 55) "_law_contour",
  kk P 500,
  kk P 501,
  kT [],
  kN [],
  kT [.str "contours" 938, .str "x" 939, .str "y" 940, .str "found" 941, .str "spots" 942, .str "is_closed" 943, .str "place" 944, .str "one" 945, .str "two" 946, .str "low" 947, .str "high" 948],
  kT [],
  kP (sA 56) "_law_wound",
  kk P 507,
  kk P 508,
  kT [],
  kN [],
  kT [.str "n" 955, .str "alpha" 956],
  kT [],
  kP (sA 57) "_law_times",
  kk P 514,
  kk P 515,
  kT [],
  kN [],
  kP (sA 58) "_law_dot",
  kk P 519,
  kk P 520,
  kT [],
  kN [],
  kP (sA 59) "_law_colour",
  kk P 524,
  kk P 525,
  kT [],
  kN [],
  kP (sA 60) "_law_filled",
  kk P 529,
  kk P 530,
  kT [],
  kN [],
  kT [.str "source" 981, .str "canvas" 982, .str "clip" 983, .str "y" 984, .str "x" 985],
  kT [],
  kP (sA 61) "_law_clip",
  kk P 536,
  kk P 537,
  kT [],
  kN [],
  kP (sA 62) "law",
  kk P 541,
  kk P 542]
noncomputable def objsA (P : Params) : List Obj := (((objsC P).take 191).set 3 (kO (.type "dict") (.dict #[kE P "__name__" 165 (.str "outlinemill.sides" 364), kE P "__doc__" 166 .none, kE P "__package__" 167 .none, kE P "__loader__" 168 (.builtin "__main__.__loader__#opaque"), kE P "__spec__" 169 .none, kE P "__annotations__" 170 (.ref 6), kE P "__builtins__" 171 (.ref 4), kE P "__file__" 173 (.str "/claim/cut.py" 172), kE P "__cached__" 174 .none, kE P "_wall" 193 (.ref 21), kE P "MOST_blend" 197 (.int 255 196), kE P "mixed" 207 (.ref 28), kE P "over" 213 (.ref 33), kE P "box_of" 221 (.ref 38), kE P "MOST_colours" 225 (.int 255 224), kE P "weighted" 233 (.ref 45), kE P "MillError" 264 (.ref 62), kE P "SizeFault" 280 (.ref 75), kE P "RULES" 285 (.ref 78), kE P "is_inside" 293 (.ref 85), kE P "step_of" 301 (.ref 92), kE P "ceiling" 309 (.ref 99), kE P "column_behind" 319 (.ref 106), kE P "check_rule" 326 (.ref 113), kE P "steps_of_row" 337 (.ref 120), kE P "spans_by" 351 (.ref 127), kE P "sample_spans" 363 (.ref 134), kE P "Side" 426 (.ref 172), kE P "side_between" 434 (.ref 183), kE P "sides_of_contour" 447 (.ref 190)] 30))).set 12 (kN [.int 1 0, .int 0 0, .ref 20, .int 6 0, .int 0 0, .ref 27, .int 8 0, .int 0 0, .ref 32, .int 12 0, .int 0 0, .ref 37, .int 20 0, .int 0 0, .ref 44, .int 23 0, .int 0 0, .ref 51, .int 27 0, .int 0 0, .ref 71, .int 31 0, .int 0 0, .ref 84, .int 33 0, .int 0 0, .ref 91, .int 37 0, .int 0 0, .ref 98, .int 39 0, .int 0 0, .ref 105, .int 42 0, .int 0 0, .ref 112, .int 45 0, .int 0 0, .ref 119, .int 51 0, .int 0 0, .ref 126, .int 63 0, .int 0 0, .ref 133, .int 68 0, .int 0 0, .ref 140, .int 86 0, .int 0 0, .ref 182, .int 92 0, .int 0 0, .ref 189])
noncomputable def objsB (P : Params) : List Obj := (((objsC P).take 336).set 3 (kO (.type "dict") (.dict #[kE P "__name__" 165 (.str "outlinemill.canvas" 691), kE P "__doc__" 166 .none, kE P "__package__" 167 .none, kE P "__loader__" 168 (.builtin "__main__.__loader__#opaque"), kE P "__spec__" 169 .none, kE P "__annotations__" 170 (.ref 6), kE P "__builtins__" 171 (.ref 4), kE P "__file__" 173 (.str "/claim/cut.py" 172), kE P "__cached__" 174 .none, kE P "_wall" 193 (.ref 21), kE P "MOST_blend" 197 (.int 255 196), kE P "mixed" 207 (.ref 28), kE P "over" 213 (.ref 33), kE P "box_of" 221 (.ref 38), kE P "MOST_colours" 225 (.int 255 224), kE P "weighted" 233 (.ref 45), kE P "MillError" 264 (.ref 62), kE P "SizeFault" 280 (.ref 75), kE P "RULES" 285 (.ref 78), kE P "is_inside" 293 (.ref 85), kE P "step_of" 301 (.ref 92), kE P "ceiling" 309 (.ref 99), kE P "column_behind" 319 (.ref 106), kE P "check_rule" 326 (.ref 113), kE P "steps_of_row" 337 (.ref 120), kE P "spans_by" 351 (.ref 127), kE P "sample_spans" 363 (.ref 134), kE P "Side" 426 (.ref 172), kE P "side_between" 434 (.ref 183), kE P "sides_of_contour" 447 (.ref 190), kE P "sides_of" 458 (.ref 198), kE P "sides_between" 464 (.ref 203), kE P "FULL_ALPHA" 468 (.int 255 467), kE P "rounded_share" 476 (.ref 210), kE P "Mask" 592 (.ref 283), kE P "mask_of" 609 (.ref 294), kE P "common_tile" 623 (.ref 301), kE P "tile_of_box" 635 (.ref 308), kE P "FULL_painter" 639 (.int 255 638), kE P "rectangle_of" 646 (.ref 315), kE P "share" 658 (.ref 322), kE P "thinned" 664 (.ref 327), kE P "paint_fill" 690 (.ref 334), kE P "NOTHING" 697 (.ref 335)] 44))).set 12 (kN [.int 1 0, .int 0 0, .ref 20, .int 6 0, .int 0 0, .ref 27, .int 8 0, .int 0 0, .ref 32, .int 12 0, .int 0 0, .ref 37, .int 20 0, .int 0 0, .ref 44, .int 23 0, .int 0 0, .ref 51, .int 27 0, .int 0 0, .ref 71, .int 31 0, .int 0 0, .ref 84, .int 33 0, .int 0 0, .ref 91, .int 37 0, .int 0 0, .ref 98, .int 39 0, .int 0 0, .ref 105, .int 42 0, .int 0 0, .ref 112, .int 45 0, .int 0 0, .ref 119, .int 51 0, .int 0 0, .ref 126, .int 63 0, .int 0 0, .ref 133, .int 68 0, .int 0 0, .ref 140, .int 86 0, .int 0 0, .ref 182, .int 92 0, .int 0 0, .ref 189, .int 102 0, .int 0 0, .ref 197, .int 107 0, .int 0 0, .ref 202, .int 111 0, .int 0 0, .ref 209, .int 113 0, .int 0 0, .ref 216, .int 163 0, .int 0 0, .ref 293, .int 170 0, .int 0 0, .ref 300, .int 177 0, .int 0 0, .ref 307, .int 185 0, .int 0 0, .ref 314, .int 187 0, .int 0 0, .ref 321, .int 190 0, .int 0 0, .ref 326, .int 194 0, .int 0 0, .ref 333])
noncomputable abbrev shA (w : World) (os : OsState) : SharedT := ⟨treeOf 9 (objsA w.params), 191, {}, #[], {}, 448, os⟩
noncomputable abbrev shB (w : World) (os : OsState) : SharedT := ⟨treeOf 10 (objsB w.params), 336, {}, #[], {}, 698, os⟩
noncomputable def heapC (P : Params) : Heap := ⟨(objsC P).toArray, {}⟩
noncomputable abbrev shC (w : World) (os : OsState) : Shared := ⟨heapC w.params, #[], {}, 995, os⟩
noncomputable abbrev posA : Pos := ⟨92, 0, 101, 16⟩
noncomputable abbrev posB : Pos := ⟨208, 0, 208, 7⟩
noncomputable abbrev bodyA : List Stmt := body0.take 27
noncomputable abbrev bodyB : List Stmt := (body0.drop 27).take 18
noncomputable abbrev bodyC : List Stmt := body0.drop 45
theorem body_parts : body0 = bodyA ++ (bodyB ++ (bodyC ++ [])) := by
  rw [List.append_nil, show bodyC = (body0.drop 27).drop 18 by rw [List.drop_drop], List.take_append_drop, List.take_append_drop]
theorem pre0 (w : World) (os : OsState) : topGo treeTable prog0 w 11 ann0 12 (sh0 w os) (topStub prog0) = some ((sh1 w os).abs, ⟨denote treeTable code0, code0, pos0, stack0⟩) := by kernel_rfl
theorem block0 (w : World) (os : OsState) : segRun treeTable prog0 w 11 ann0 1 1 (sh1 w os).abs (blockOf body0 env0 code0 pos0 stack0) = some (.next, (sh1 w os).abs, code0, pos0) := by kernel_rfl
theorem size0 (w : World) : ((boot_heap w.params).isNs mainGlobals && (Array.mk [] : Array GenState).size == 0, (boot_heap w.params).objs.size, (boot_heap w.params).nsMap mainGlobals "__annotations__") = (true, 11, ann0) := by kernel_rfl
theorem cutA (w : World) (os : OsState) : segRunT treeTable prog0 w 11 ann0 1 2000 (sh1 w os) (piecesOf bodyA env0 code0 pos0 stack0) = some (.next, shA w os, code0, posA) := by
  rw [Fast.te10110043849684766642, Fast.te14364793385576792824]
  kernel_rfl
theorem cutB (w : World) (os : OsState) : segRunT treeTable prog0 w 11 ann0 1 2000 (shA w os) (piecesOf bodyB env0 code0 posA stack0) = some (.next, shB w os, code0, posB) := by
  rw [Fast.te10110043849684766642, Fast.te14364793385576792824]
  kernel_rfl
noncomputable def endOf (w : World) (r : Flow × SharedT × Code × Pos) : Option (Code × Shared) := match r with
  | (.next, S, c, q) => (topRun treeTable prog0 w 11 ann0 2 S.abs ⟨doneF .next, code0, q, stack0⟩).map fun s => (c, s)
  | _ => none
theorem cutC (w : World) (os : OsState) : (segRunT treeTable prog0 w 11 ann0 1 2000 (shB w os) (piecesOf bodyC env0 code0 posB stack0)).bind (endOf w) = some (code0, shC w os) := by
  rw [Fast.te10110043849684766642]
  rw [show Fast.tw10110043849684766642 treeTable = Fast.tw10110043849684766642 Fast.tw14364793385576792824 by rw [← Fast.te14364793385576792824]]
  kernel_rfl
theorem top0 (w : World) (os : OsState) : topRun treeTable prog0 w 11 ann0 6015 (sh0 w os) (topStub prog0) = some (shC w os) := by
  obtain ⟨⟨f, S, c, q⟩, h1, h2⟩ := Option.bind_eq_some_iff.mp (cutC w os)
  cases f with
  | next =>
    have h2 : (topRun treeTable prog0 w 11 ann0 2 S.abs ⟨doneF .next, code0, q, stack0⟩).map (fun s => (c, s)) = some (code0, shC w os) := h2
    obtain ⟨s, h3, h4⟩ := Option.map_eq_some_iff.mp h2
    obtain ⟨rfl, rfl⟩ := Prod.mk.inj h4
    have k1 := piece_app (segRun_of (cutA w os)) (piece_app (segRun_of (cutB w os)) (piece_app (rest := []) (segRun_of h1) (piece_nil h3)))
    rw [← body_parts] at k1
    exact go_top (pre0 w os) (piece_block (block0 w os) k1)
  | _ => cases h2
theorem left0 {q : Program} {loose : List Str} {Xt : Shared → Bool} {α : Type} {Yf : Shared → α} {Ya : World → α} {N : Nat} (le : Nat.ble 6015 N = true)
    (open_ : ∀ w : World, (fencedOpening treeTable prog0 w N).map (fun s => (s.heap, s.gens, s.drawn, s.toks)) = some (boot_heap w.params, Array.mk [], boot_drawn, boot_toks))
    (run : ∀ (w : World) (os : OsState), ∃ s, topRun treeTable prog0 w 11 ann0 6015 (sh0 w os) (topStub prog0) = some s ∧ looks0 w q loose Xt Yf s = (true, openGood q loose, Ya w)) : LeftO prog0 q loose Xt Yf Ya N true := fun w => by
  obtain ⟨⟨h, gs, d, k, os⟩, e, e'⟩ := Option.map_eq_some_iff.mp (open_ w)
  obtain ⟨rfl, rfl, rfl, rfl⟩ : h = boot_heap w.params ∧ gs = Array.mk [] ∧ d = boot_drawn ∧ k = boot_toks := by simpa using e'
  obtain ⟨z1, z2, z3⟩ : _ ∧ _ ∧ _ := by simpa only [Prod.mk.injEq] using size0 w
  obtain ⟨s, r, l⟩ := run w os
  obtain ⟨l1, l2, l3⟩ : _ ∧ _ ∧ _ := by simpa only [looks0, Prod.mk.injEq] using l
  have r := topRun_mono (N - 6015) _ _ _ _ r
  rw [show 6015 + (N - 6015) = N by have := Nat.le_of_ble_eq_true le; omega] at r
  have t : topFrom treeTable prog0 w N ⟨boot_heap w.params, Array.mk [], boot_drawn, boot_toks, os⟩ = some s := by
    unfold topFrom
    dsimp only
    rw [z1, z2, z3, r]
    show (match staticsOk (importedModules prog0.main.body) (boot_heap w.params) s.heap && namesBound prog0 s.heap && gensDone s && laidKept (boot_heap w.params) s.heap with | true => _ | false => _) = _
    rw [l1]
  unfold openEnds
  rw [e]
  show (topFrom treeTable prog0 w N _).map _ = _
  rw [t]
  exact congrArg some (Prod.ext l2 l3)
end
section
noncomputable def placesK : List Addr := [3, 27, 28, 32, 33, 37, 38, 44, 45, 78, 84, 85, 91, 92, 98, 99, 105, 106, 112, 113, 119, 120, 126, 127, 133, 134, 147, 148, 161, 162, 168, 169, 171, 172, 182, 183, 189, 190, 191, 197, 198, 202, 203, 209, 210, 223, 224, 230, 231, 237, 238, 244, 245, 251, 252, 258, 259, 282, 283, 293, 294, 300, 301, 307, 308, 314, 315, 321, 322, 326, 327, 333, 334, 335, 343, 347, 348, 354, 355, 361, 362, 368, 369, 383, 384, 400, 401, 416, 417, 423, 424, 430, 431, 437, 438, 440, 441, 458, 459, 465, 466, 468, 469, 479, 480, 486, 487, 493, 494, 500, 501, 507, 508, 514, 515, 519, 520, 524, 525, 529, 530, 536, 537, 541, 542]
theorem places_ok (P : Params) : placesK = (heapK P).map (·.1) := by kernel_rfl
noncomputable def hookK : Hook := kHook heapK placesK places_ok
noncomputable def looseQ : List Str := ["sides_of"]
noncomputable def xtQ (s : Shared) : Bool := xlAt viewQ [] s && recOk (RowW.records (OpenRow.toRowW (OpenLaw.row PySem.Challenge.rw_on0246_01))) s
theorem look1 (w : World) (os : OsState) : (staticsOk (importedModules prog0.main.body) (boot_heap w.params) (heapC w.params) && namesBound prog0 (heapC w.params) && gensDone (shC w os) && laidKept (boot_heap w.params) (heapC w.params)) = true := by kernel_rfl
theorem seen1 (w : World) (os : OsState) : seen ((recsOf viewQ).map (·.name)) (ownsOf viewQ) [] { shC w os with gens := #[] } = expectedOf viewQ := by
  rw [Fast.te5160383126252970620, Fast.te3399658132070893891]
  kernel_rfl
theorem seen2 (w : World) : (heapC w.params).bltView = bltViewBooted := by kernel_rfl
theorem seen3 (w : World) (os : OsState) : ((heapC w.params).keysOk (looseW viewQ looseQ) ((recsOf viewQ).map (·.name)) ((litsOf viewQ).map (·.1)) ((clssOf viewQ (looseW viewQ looseQ)).map (·.name)) && (heapC w.params).accountedOkI (importedModules prog0.main.body) && (heapC w.params).isNs mainGlobals && (heapC w.params).isNs builtinsNs && tablesOk viewQ (heapC w.params) && xtQ (shC w os) && (if true = true then (shC w os).gens.size == 0 else !leftWithCleanup (shC w os).gens)) = true := by
  rw [Fast.te10880121769531294198, Fast.te14722251495701143533, Fast.te10994771534591457954, Fast.te821141287760084731, Fast.te3399658132070893891, Fast.te7409074990110511671, Fast.te13664370479719496447, Fast.te5923862056798008813]
  kernel_rfl
theorem seen4 (w : World) (os : OsState) : tabsOk viewQ (shC w os) = true := by
  rw [Fast.te479339242167458305]
  kernel_rfl
theorem seen5 (w : World) (os : OsState) : pinSeenD viewQ (drecsOf viewQ) (shC w os) = pinGoodD (drecsOf viewQ) := by
  rw [Fast.te16090120013241838585]
  kernel_rfl
theorem seen6 (w : World) (os : OsState) : plainSeenE viewQ (looseW viewQ looseQ) (shC w os) = plainGoodE viewQ (looseW viewQ looseQ) := by
  rw [Fast.te2386780881361962483, Fast.te821141287760084731]
  kernel_rfl
theorem seen7 (w : World) (os : OsState) : plainSeenD viewQ looseQ (shC w os) = plainGoodD viewQ looseQ := by
  rw [Fast.te11698064438423848299]
  kernel_rfl
theorem seen8 (w : World) (os : OsState) : wideSeen viewQ (shC w os) = wideGood viewQ := by
  rw [Fast.te7317090234206586261]
  kernel_rfl
theorem seen9 (w : World) (os : OsState) : clsSeenW viewQ looseQ (shC w os) = clsGoodW viewQ looseQ := by
  rw [Fast.te7369524293546568484]
  kernel_rfl
theorem look2 (w : World) (os : OsState) : openSeen viewQ looseQ (importedModules prog0.main.body) xtQ true (shC w os) = openGood viewQ looseQ := by
  unfold openSeen openGood
  exact looks_pair (seen1 w os) (looks_pair (seen2 w) (looks_pair (seen3 w os) (looks_pair (seen4 w os) (looks_pair (seen5 w os) (looks_pair (seen6 w os) (looks_pair (seen7 w os) (looks_pair (seen8 w os) (seen9 w os))))))))
theorem look3 (w : World) : placesK.map (heapC w.params).get? = (heapK w.params).map fun p => some p.2 := by kernel_rfl
end
noncomputable abbrev prog1 : Program := RowW.prog (OpenRow.toRowW (OpenLaw.row PySem.Challenge.rw_on0246_01))
theorem ws_a : (sreFenced prog1.main && ((moduleNames prog1.main.body).isEmpty || lookedIntoSs (moduleNames prog1.main.body) prog1.main.body)) = true := by
  rw [Fast.te11788848310118352699, Fast.te9807087744658564304]
  kernel_rfl
theorem ws_c : namesResolve prog1 = true := by
  rw [Fast.te8377067652309620493]
  kernel_rfl
theorem ws_d : prog1.boundNames.all (fun n => !worldNames.contains n) = true := by
  rw [Fast.te18344453789297297638]
  kernel_rfl
theorem ws_e : noRoadLSs { strict := !(importedModules prog1.main.body).all cThrough.contains, foot := none, bare := (["vars", "dir", "locals"] : List Str).filter (readsOut prog1 prog1.main.body) } prog1.main.body = true := by
  rw [Fast.te8326940854005059898, Fast.te5923862056798008813]
  kernel_rfl
theorem ws_f : (namesMeet prog1 prog1.main.body fun _ n => attrL n) = true := by
  rw [Fast.te17119622794617984870]
  kernel_rfl
theorem ws_looks : looksOpen prog1 = true := look_both (look_both (look_both (look_both ws_a ws_c) ws_d) ws_e) ws_f
theorem ws_row : OpenRow.wellSaid (OpenLaw.row PySem.Challenge.rw_on0246_01) = true := by
  unfold OpenRow.wellSaid OpenRow.partSaid
  rw [ws_looks, Fast.te13582783067957832011, Fast.te18344453789297297638, Fast.named_eq]
  kernel_rfl
theorem ws0 : OpenLaw.wellSaid PySem.Challenge.rw_on0246_01 = true := by
  unfold OpenLaw.wellSaid
  rw [ws_row, Fast.te10501279942588096481, Fast.te8179353310426384613, Fast.te8326940854005059898, Fast.te9558739934217749035, Fast.te16286561074155671207, Fast.te17119622794617984870, Fast.te6984425678791042302, Fast.named_eq]
  kernel_rfl
theorem opening0 : opening prog0 = plainProg prog0.main.scope.names := by kernel_rfl
theorem fence0 (s : Shared) : fenceModules? prog0 s = some s := by kernel_rfl
theorem leftQ : LeftO prog0 viewQ looseQ xtQ (Hook.obs hookK) (Hook.val hookK) 7392 true :=
  left0 (by decide) (boot_open opening0 (by decide) fence0) fun w os => ⟨_, top0 w os, by unfold looks0; rw [look1 w os, look2 w os]; exact congrArg _ (congrArg _ (look3 w))⟩
theorem headN {d : DefRec} {kwd : List (Str × PySem.Expr)} (hdef : defOf viewQ (RowW.name (OpenRow.toRowW (OpenLaw.row PySem.Challenge.rw_on0246_01))) = some (d, kwd)) (hp : prog0.theDef (RowW.name (OpenRow.toRowW (OpenLaw.row PySem.Challenge.rw_on0246_01))) = some (d.params, d.body, d.scope)) (hk : kwWritten? d.params.kwonlyargs d.params.kw_defaults = some kwd)
    (call : WalkO viewQ looseQ (XL viewQ []) (Hook.says hookK) (OpenRow.toRowW (OpenLaw.row PySem.Challenge.rw_on0246_01)) d kwd fun f vs => PySem.call f vs) : PySem.Challenge.rw_on0246_01.Holds := by
  refine holds_law ws0 fun said => ?_
  refine holds_open (q := viewQ) (loose := looseQ) (Xt := xtQ) (XP := XL viewQ []) (Yf := Hook.obs hookK) (Ya := Hook.val hookK) (YP := Hook.says hookK) (N := 7392) leftQ (Hook.of hookK) (Hook.keeps hookK) (fun s e => xl_of s (Bool.and_eq_true_iff.mp e).1) XL.keeps hdef hp hk (fun s e => recFacts_of (Bool.and_eq_true_iff.mp e).2) (by rfl) said (by decide +kernel) ⟨rfl, rfl, rfl, rfl, rfl, by decide +kernel⟩ ?hw call
  w_witness2
section
variable {prog : Program} {w : World} {c : Cx prog w (heapK w.params)} {n : Nat} {σ : Sto} {P : Params}
theorem g_MOST_blend : nsIn (heapK P) mainGlobals "MOST_blend" = some (some (.int 255 196)) := by rfl
theorem g_MOST_colours : nsIn (heapK P) mainGlobals "MOST_colours" = some (some (.int 255 224)) := by rfl
theorem g_FULL_ALPHA : nsIn (heapK P) mainGlobals "FULL_ALPHA" = some (some (.int 255 467)) := by rfl
theorem g_FULL_painter : nsIn (heapK P) mainGlobals "FULL_painter" = some (some (.int 255 638)) := by rfl
theorem g_FULL_clips : nsIn (heapK P) mainGlobals "FULL_clips" = some (some (.int 255 794)) := by rfl
theorem b_len : nsIn (heapK P) mainGlobals "len" = some none := by rfl
theorem b_min : nsIn (heapK P) mainGlobals "min" = some none := by rfl
theorem b_max : nsIn (heapK P) mainGlobals "max" = some none := by rfl
theorem b_int : nsIn (heapK P) mainGlobals "int" = some none := by rfl
theorem b_tuple : nsIn (heapK P) mainGlobals "tuple" = some none := by rfl
theorem b_list : nsIn (heapK P) mainGlobals "list" = some none := by rfl
theorem b_dict : nsIn (heapK P) mainGlobals "dict" = some none := by rfl
theorem b_zip : nsIn (heapK P) mainGlobals "zip" = some none := by rfl
theorem b_range : nsIn (heapK P) mainGlobals "range" = some none := by rfl
theorem b_enumerate : nsIn (heapK P) mainGlobals "enumerate" = some none := by rfl
theorem b_sorted : nsIn (heapK P) mainGlobals "sorted" = some none := by rfl
theorem f_mixed : FnAt (heapK P) "mixed" 28 := ⟨rfl, rfl⟩
theorem f_over : FnAt (heapK P) "over" 33 := ⟨rfl, rfl⟩
theorem f_box_of : FnAt (heapK P) "box_of" 38 := ⟨rfl, rfl⟩
theorem f_weighted : FnAt (heapK P) "weighted" 45 := ⟨rfl, rfl⟩
theorem f_is_inside : FnAt (heapK P) "is_inside" 85 := ⟨rfl, rfl⟩
theorem f_step_of : FnAt (heapK P) "step_of" 92 := ⟨rfl, rfl⟩
theorem f_ceiling : FnAt (heapK P) "ceiling" 99 := ⟨rfl, rfl⟩
theorem f_column_behind : FnAt (heapK P) "column_behind" 106 := ⟨rfl, rfl⟩
theorem f_check_rule : FnAt (heapK P) "check_rule" 113 := ⟨rfl, rfl⟩
theorem f_steps_of_row : FnAt (heapK P) "steps_of_row" 120 := ⟨rfl, rfl⟩
theorem f_spans_by : FnAt (heapK P) "spans_by" 127 := ⟨rfl, rfl⟩
theorem f_sample_spans : FnAt (heapK P) "sample_spans" 134 := ⟨rfl, rfl⟩
theorem f_Side : FnAt (heapK P) "Side" 172 := ⟨rfl, rfl⟩
theorem f_side_between : FnAt (heapK P) "side_between" 183 := ⟨rfl, rfl⟩
theorem f_sides_of_contour : FnAt (heapK P) "sides_of_contour" 190 := ⟨rfl, rfl⟩
theorem f_sides_of : FnAt (heapK P) "sides_of" 198 := ⟨rfl, rfl⟩
theorem f_sides_between : FnAt (heapK P) "sides_between" 203 := ⟨rfl, rfl⟩
theorem f_rounded_share : FnAt (heapK P) "rounded_share" 210 := ⟨rfl, rfl⟩
theorem f_Mask : FnAt (heapK P) "Mask" 283 := ⟨rfl, rfl⟩
theorem f_mask_of : FnAt (heapK P) "mask_of" 294 := ⟨rfl, rfl⟩
theorem f_common_tile : FnAt (heapK P) "common_tile" 301 := ⟨rfl, rfl⟩
theorem f_tile_of_box : FnAt (heapK P) "tile_of_box" 308 := ⟨rfl, rfl⟩
theorem f_rectangle_of : FnAt (heapK P) "rectangle_of" 315 := ⟨rfl, rfl⟩
theorem f_share : FnAt (heapK P) "share" 322 := ⟨rfl, rfl⟩
theorem f_thinned : FnAt (heapK P) "thinned" 327 := ⟨rfl, rfl⟩
theorem f_paint_fill : FnAt (heapK P) "paint_fill" 334 := ⟨rfl, rfl⟩
theorem f_Canvas : FnAt (heapK P) "Canvas" 401 := ⟨rfl, rfl⟩
theorem f_AlphaMap : FnAt (heapK P) "AlphaMap" 441 := ⟨rfl, rfl⟩
theorem f_Flat : FnAt (heapK P) "Flat" 469 := ⟨rfl, rfl⟩
theorem f_law_pool : FnAt (heapK P) "_law_pool" 480 := ⟨rfl, rfl⟩
theorem f_law_take : FnAt (heapK P) "_law_take" 487 := ⟨rfl, rfl⟩
theorem f_law_one : FnAt (heapK P) "_law_one" 494 := ⟨rfl, rfl⟩
theorem f_law_contour : FnAt (heapK P) "_law_contour" 501 := ⟨rfl, rfl⟩
theorem f_law_wound : FnAt (heapK P) "_law_wound" 508 := ⟨rfl, rfl⟩
theorem f_law_times : FnAt (heapK P) "_law_times" 515 := ⟨rfl, rfl⟩
theorem f_law_dot : FnAt (heapK P) "_law_dot" 520 := ⟨rfl, rfl⟩
theorem f_law_colour : FnAt (heapK P) "_law_colour" 525 := ⟨rfl, rfl⟩
theorem f_law_filled : FnAt (heapK P) "_law_filled" 530 := ⟨rfl, rfl⟩
theorem f_law_clip : FnAt (heapK P) "_law_clip" 537 := ⟨rfl, rfl⟩
end
section
variable {prog : Program} {w : World} {c : Cx prog w (heapK w.params)} {n : Nat} {σ : Sto} {P : Params}
noncomputable def mixedV (one first other second : Int) : Int := (2 * (one * first + other * second) + 255).fdiv (2 * 255)
theorem d_mixed {one first other second : Int} (h2 : first.natAbs < 2 ^ 20) (h4 : second.natAbs < 2 ^ 20) : Dc c (n + 1) (.ref 28) [.int one, .int first, .int other, .int second] σ (.int (mixedV one first other second)) :=
  Cc.ca <| Cc.fn ["one", "first", "other", "second"] rfl (argn4 fun _ _ _ _ => rfl) fun L cells =>
    Xs.ret (De.ev (De.fdiv (De.add (De.mul De.num (De.add (De.mul (De.nm rfl) (De.nm rfl) (smallMul (by (first | lia | omega)))) (De.mul (De.nm rfl) (De.nm rfl) (smallMul (by (first | lia | omega))))) (smallMul' (by decide))) (De.gn rfl g_MOST_blend)) (De.mul De.num (De.gn rfl g_MOST_blend) (smallMul (by decide))) (by decide) (smallDiv (by decide))) ⟨rfl, rfl⟩)
noncomputable def weightedV (n alpha : Int) : Int := (2 * n * alpha + 255).fdiv (2 * 255)
theorem d_weighted {m alpha : Int} (h2 : alpha.natAbs < 2 ^ 20) : Dc c (n + 1) (.ref 45) [.int m, .int alpha] σ (.int (weightedV m alpha)) :=
  Cc.ca <| Cc.fn ["n", "alpha"] rfl (argn2 fun _ _ => rfl) fun L cells =>
    Xs.ret (De.ev (De.fdiv (De.add (De.mul (De.mul De.num (De.nm rfl) (smallMul' (by decide))) (De.nm rfl) (smallMul (by (first | lia | omega)))) (De.gn rfl g_MOST_colours)) (De.mul De.num (De.gn rfl g_MOST_colours) (smallMul (by decide))) (by decide) (smallDiv (by decide))) ⟨rfl, rfl⟩)
noncomputable def insideV (winding : Int) (rule : Str) : Bool := if (rule == Str.ofString "nonzero") = true then winding != 0 else winding.fmod 2 != 0
theorem d_is_inside {winding : Int} {rule : Str} : Dc c (n + 1) (.ref 85) [.int winding, .str rule] σ (.bool (insideV winding rule)) :=
  Cc.ca <| Cc.fn ["winding", "rule"] rfl (argn2 fun _ _ => rfl) fun L cells => by
    refine Xs.ret (De.ev (De.ifexp (Dt.eqStr (De.nm rfl) De.text) (fun _ => De.cmp (De.nm rfl) De.num) (fun _ => De.cmp (De.fmod (De.nm rfl) De.num (by decide)) De.num)) ⟨?_, rfl⟩)
    unfold insideV
    split <;> rfl
noncomputable abbrev Col := Int × Int × Int × Int
noncomputable def colL (a : Col) : List Int := [a.1, a.2.1, a.2.2.1, a.2.2.2]
noncomputable def colP (a : Col) : PV := .tup (intsP (colL a))
noncomputable def overV (a b : Col) : Col := (mixedV a.1 255 b.1 (255 - a.2.2.2), mixedV a.2.1 255 b.2.1 (255 - a.2.2.2), mixedV a.2.2.1 255 b.2.2.1 (255 - a.2.2.2), mixedV a.2.2.2 255 b.2.2.2 (255 - a.2.2.2))
theorem d_over {a b : Col} (hs : a.2.2.2.natAbs < 2 ^ 19) : Dc c (n + 2) (.ref 33) [colP a, colP b] σ (colP (overV a b)) :=
  Cc.ca <| Cc.fn ["above", "below"] rfl (argn2 fun _ _ => rfl) fun L cells => by
    refine Xs.cons (Ex.assign (i := 2) rfl (De.ev (pv := .int (255 - a.2.2.2)) (De.sub (De.gn rfl g_MOST_blend) (De.item (De.nm rfl) De.num (by decide) (by decide) rfl rfl)) ?_))
    refine Xs.ret (De.ev (pv := colP (overV a b)) (De.bt Boot.tuple b_tuple (l := [.lst (intsP (colL (overV a b)))]) (Ds.cons ?_ Ds.nil) (Dc.tupleL (show 4 ≤ 1000000 by decide))) ⟨rfl, rfl⟩)
    refine Ev.comp [none, none, none, none, none, some 2] (It.zp b_zip (Ds.cons (De.nm rfl) (Ds.cons (De.nm rfl) Ds.nil)) (.inr rfl) (.inr rfl) fun C cl => ?_)
    refine CL.zip2 (i := 1) (j := 2) (fun x y => mixedV x 255 y (255 - a.2.2.2)) rfl rfl (by decide) (show 4 ≤ 100000 by decide) (fun u v hu hv => ?_) fun ρ => ⟨rfl, rfl⟩
    exact De.fn f_mixed (Ds.cons (De.nm rfl) (Ds.cons (De.gn rfl g_MOST_blend) (Ds.cons (De.nm rfl) (Ds.cons (De.nm rfl) Ds.nil)))) (d_mixed (by decide) (by omega))
end
section
variable {prog : Program} {w : World} {c : Cx prog w (heapK w.params)} {n : Nat} {σ : Sto} {P : Params}
noncomputable def ceilV (top bottom : Int) : Int := 0 - (0 - top).fdiv bottom
theorem d_ceiling {top bottom : Int} (h0 : bottom ≠ 0) (hb : bottom.natAbs < 2 ^ 40) : Dc c (n + 1) (.ref 99) [.int top, .int bottom] σ (.int (ceilV top bottom)) :=
  Cc.ca <| Cc.fn ["top", "bottom"] rfl (argn2 fun _ _ => rfl) fun L cells =>
    Xs.give _ (De.sub De.num (De.fdiv (De.sub De.num (De.nm rfl)) (De.nm rfl) h0 (smallDiv (by (first | lia | omega))))) ⟨rfl, rfl⟩
noncomputable def colBehindV (top bottom step : Int) : Int := ceilV (2 * top - step * bottom) (2 * step * bottom)
theorem d_column_behind {top bottom step : Int} (h0 : bottom ≠ 0) (hs : step ≠ 0) (hb : bottom.natAbs < 2 ^ 15) (hs' : step.natAbs < 2 ^ 15) : Dc c (n + 2) (.ref 106) [.tup [.int top, .int bottom], .int step] σ (.int (colBehindV top bottom step)) :=
  Cc.ca <| Cc.fn ["place", "step"] rfl (argn2 fun _ _ => rfl) fun L cells => by
    refine Xs.unpack _ (De.nm rfl) (As.pr (.cons (As.nm (i := 2)) (.cons (As.nm (i := 3)) (.nil _))) ⟨rfl, rfl, trivial⟩) ?_
    refine Xs.give _ (De.fn f_ceiling (Ds.cons (De.sub (De.mul De.num (De.nm rfl) (smallMul' (by decide))) (De.mul (De.nm rfl) (De.nm rfl) (smallMul (by (first | lia | omega))))) (Ds.cons (De.mul (De.mul De.num (De.nm rfl) (smallMul' (by decide))) (De.nm rfl) (smallMul (by (first | lia | omega)))) Ds.nil)) (d_ceiling ?_ ?_)) ⟨rfl, rfl⟩
    · exact Int.mul_ne_zero (Int.mul_ne_zero (by decide) hs) h0
    · have : (2 * step * bottom).natAbs = 2 * step.natAbs * bottom.natAbs := by rw [Int.natAbs_mul, Int.natAbs_mul]; rfl
      rw [this]
      calc 2 * step.natAbs * bottom.natAbs ≤ 2 * 2 ^ 15 * 2 ^ 15 := Nat.mul_le_mul (Nat.mul_le_mul_left _ (Nat.le_of_lt hs')) (Nat.le_of_lt hb)
        _ < 2 ^ 40 := by decide
theorem d_step_of : Dc c (n + 1) (.ref 92) [.int 2, .int 4] σ (.int 2) :=
  Cc.ca <| Cc.fn ["fine", "grain"] rfl (argn2 fun _ _ => rfl) fun L cells => by
    refine Xs.skip (Dt.is (Dt.or3 (Dt.cmp (De.nm rfl) De.num) (fun _ => Dt.cmp (De.nm rfl) De.num) (fun _ _ => Dt.cmp (De.fmod (De.nm rfl) (De.mul De.num (De.nm rfl) (smallMul (by decide))) (by decide)) De.num)) (by decide)) ?_
    exact Xs.give _ (De.fdiv (De.nm rfl) (De.nm rfl) (by decide) (smallDiv (by decide))) ⟨rfl, rfl⟩
noncomputable def ruleS (b : Bool) : Str := if b then Str.ofString "evenodd" else Str.ofString "nonzero"
theorem r_RULES : Rep prog w c.G (fun _ => False) (.tup ([Str.ofString "nonzero", Str.ofString "evenodd"].map .str)) (.ref 78) := by
  simp only [Rep]
  exact ⟨78, [.str "nonzero" 283, .str "evenodd" 284], rfl, fun z => z, ⟨_, c.X 78 _ rfl, rfl, _, rfl⟩, Reps.cons Rep.str (Reps.cons Rep.str Reps.nil)⟩
theorem d_check_rule {b : Bool} : Dc c (n + 1) (.ref 113) [.str (ruleS b)] σ .none :=
  Cc.ca <| Cc.fn ["rule"] rfl (argn1 fun _ => rfl) fun L cells => by
    refine Xs.skip (Dt.cmpBy (De.nm rfl) (De.glob (i := 1) rfl (show nsIn _ mainGlobals "RULES" = some (some (.ref 78)) from rfl) r_RULES) (CmpTo.notInStrs ?_ ?_ ?_)) (Xs.nil ⟨rfl, rfl⟩)
    · cases b <;> decide +kernel
    · decide +kernel
    · cases b <;> decide +kernel
noncomputable def roundedV (top bottom : Int) : Int := (2 * top + bottom).fdiv (2 * bottom)
theorem d_rounded_share {top bottom : Int} (h0 : bottom ≠ 0) (hb : bottom.natAbs < 2 ^ 20) : Dc c (n + 1) (.ref 210) [.int top, .int bottom] σ (.int (roundedV top bottom)) :=
  Cc.ca <| Cc.fn ["top", "bottom"] rfl (argn2 fun _ _ => rfl) fun L cells =>
    Xs.give _ (De.fdiv (De.add (De.mul De.num (De.nm rfl) (smallMul' (by decide))) (De.nm rfl)) (De.mul De.num (De.nm rfl) (smallMul' (by decide))) (by omega) (smallDiv (by omega))) ⟨rfl, rfl⟩
structure SideV where
  x1 : Int
  y1 : Int
  x2 : Int
  y2 : Int
  way : Int
noncomputable def sideN : List Str := ["x1", "y1", "x2", "y2", "way"]
noncomputable def sideP (s : SideV) : PV := .obj 172 sideN [.int s.x1, .int s.y1, .int s.x2, .int s.y2, .int s.way]
theorem a_Side_x1 : AttrOk (heapK P) 172 "x1" := ⟨rfl, rfl, _, rfl, rfl⟩
theorem a_Side_y1 : AttrOk (heapK P) 172 "y1" := ⟨rfl, rfl, _, rfl, rfl⟩
theorem a_Side_x2 : AttrOk (heapK P) 172 "x2" := ⟨rfl, rfl, _, rfl, rfl⟩
theorem a_Side_y2 : AttrOk (heapK P) 172 "y2" := ⟨rfl, rfl, _, rfl, rfl⟩
theorem a_Side_way : AttrOk (heapK P) 172 "way" := ⟨rfl, rfl, _, rfl, rfl⟩
theorem s_Side_x1 : SetOk (heapK P) 172 "x1" := ⟨rfl, rfl, rfl, rfl⟩
theorem s_Side_y1 : SetOk (heapK P) 172 "y1" := ⟨rfl, rfl, rfl, rfl⟩
theorem s_Side_x2 : SetOk (heapK P) 172 "x2" := ⟨rfl, rfl, rfl, rfl⟩
theorem s_Side_y2 : SetOk (heapK P) 172 "y2" := ⟨rfl, rfl, rfl, rfl⟩
theorem s_Side_way : SetOk (heapK P) 172 "way" := ⟨rfl, rfl, rfl, rfl⟩
theorem m_Side_covers : MethOk (heapK P) 172 "covers" 162 := ⟨rfl, rfl, rfl, rfl⟩
theorem m_Side_place_at : MethOk (heapK P) 172 "place_at" 169 := ⟨rfl, rfl, rfl, rfl⟩
theorem d_Side {x1 y1 x2 y2 way : Int} : Dc c (n + 2) (.ref 172) [.int x1, .int y1, .int x2, .int y2, .int way] σ (sideP ⟨x1, y1, x2, y2, way⟩) :=
  Dc.make (fI := 148) rfl rfl rfl fun d hd => Cc.fn ["self", "x1", "y1", "x2", "y2", "way"] rfl (argn6 fun _ _ _ _ _ _ => rfl) fun L cells => by
    refine Xs.setA (.int x1) s_Side_x1 (De.nm rfl) (De.nm rfl) ?_
    refine Xs.setA (.int y1) s_Side_y1 (De.nm rfl) (De.nm rfl) ?_
    refine Xs.setA (.int x2) s_Side_x2 (De.nm rfl) (De.nm rfl) ?_
    refine Xs.setA (.int y2) s_Side_y2 (De.nm rfl) (De.nm rfl) ?_
    refine Xs.setA (.int way) s_Side_way (De.nm rfl) (De.nm rfl) ?_
    exact Xs.nil ⟨rfl, rfl⟩
noncomputable def coversV (s : SideV) (y : Int) : Bool := decide (s.y1 ≤ y) && decide (y < s.y2)
theorem d_covers {s : SideV} {y : Int} : Dc c (n + 1) (.ref 162) [sideP s, .int y] σ (.bool (coversV s y)) :=
  Cc.ca <| Cc.fn ["self", "y"] rfl (argn2 fun _ _ => rfl) fun L cells =>
    Xs.give _ (De.cmp2 (De.fld (De.nm rfl) a_Side_y1) (De.nm rfl) (De.fld (De.nm rfl) a_Side_y2)) ⟨rfl, rfl⟩
end
section
variable {prog : Program} {w : World} {c : Cx prog w (heapK w.params)} {n : Nat} {σ : Sto} {P : Params}
noncomputable def placeV (s : SideV) (y : Int) : Int := s.x1 * (s.y2 - s.y1) + (s.x2 - s.x1) * (y - s.y1)
theorem d_place_at {s : SideV} {y : Int} (h1 : s.y1.natAbs < 2 ^ 12) (h2 : s.y2.natAbs < 2 ^ 12) (hy : y.natAbs < 2 ^ 12) : Dc c (n + 1) (.ref 169) [sideP s, .int y] σ (.tup [.int (placeV s y), .int (s.y2 - s.y1)]) :=
  Cc.ca <| Cc.fn ["self", "y"] rfl (argn2 fun _ _ => rfl) fun L cells => by
    refine Xs.let 2 (.int (s.y2 - s.y1)) (De.sub (De.fld (De.nm rfl) a_Side_y2) (De.fld (De.nm rfl) a_Side_y1)) ?_
    exact Xs.give (.tup [.int (placeV s y), .int (s.y2 - s.y1)]) (De.tp (Ds.cons (De.add (De.mul (De.fld (De.nm rfl) a_Side_x1) (De.nm rfl) (smallMul (abs_sub h2 h1))) (De.mul (De.sub (De.fld (De.nm rfl) a_Side_x2) (De.fld (De.nm rfl) a_Side_x1)) (De.sub (De.nm rfl) (De.fld (De.nm rfl) a_Side_y1)) (smallMul (abs_sub hy h1)))) (Ds.cons (De.nm rfl) Ds.nil))) ⟨rfl, rfl⟩
noncomputable def sideV (a b : Int × Int) : Option SideV := if a.2 = b.2 then none else if a.2 < b.2 then some ⟨a.1, a.2, b.1, b.2, 1⟩ else some ⟨b.1, b.2, a.1, a.2, -1⟩
noncomputable def sideO : Option SideV → PV
  | none => .none
  | some s => sideP s
theorem d_side_between {a b : Int × Int} : Dc c (n + 3) (.ref 183) [pairP a, pairP b] σ (sideO (sideV a b)) :=
  Cc.ca <| Cc.fn ["one", "other"] rfl (argn2 fun _ _ => rfl) fun L cells => by
    refine Xs.ifs (Dt.cmp (De.snd (a := a) (De.nm rfl)) (De.snd (a := b) (De.nm rfl))) (fun h => ?_) fun h => ?_
    · have h' : a.2 = b.2 := by simpa [cmpI] using h
      exact Xs.give .none De.nothing ⟨by unfold sideV; rw [if_pos h']; rfl, rfl⟩
    · have h' : ¬ a.2 = b.2 := by simpa [cmpI] using h
      refine Xs.ifs (Dt.cmp (De.snd (a := a) (De.nm rfl)) (De.snd (a := b) (De.nm rfl))) (fun g => ?_) fun g => ?_
      · have g' : a.2 < b.2 := by simpa [cmpI] using g
        refine Xs.give (sideP ⟨a.1, a.2, b.1, b.2, 1⟩) (De.fn f_Side (Ds.cons (De.fst (a := a) (De.nm rfl)) (Ds.cons (De.snd (a := a) (De.nm rfl)) (Ds.cons (De.fst (a := b) (De.nm rfl)) (Ds.cons (De.snd (a := b) (De.nm rfl)) (Ds.cons De.num Ds.nil))))) d_Side) ?_
        exact ⟨by unfold sideV; rw [if_neg h', if_pos g']; rfl, rfl⟩
      · have g' : ¬ a.2 < b.2 := by simpa [cmpI] using g
        refine Xs.give (sideP ⟨b.1, b.2, a.1, a.2, -1⟩) (De.fn f_Side (Ds.cons (De.fst (a := b) (De.nm rfl)) (Ds.cons (De.snd (a := b) (De.nm rfl)) (Ds.cons (De.fst (a := a) (De.nm rfl)) (Ds.cons (De.snd (a := a) (De.nm rfl)) (Ds.cons (De.neg De.num) Ds.nil))))) d_Side) ?_
        exact ⟨by unfold sideV; rw [if_neg h', if_neg g']; rfl, rfl⟩
end
section
variable {prog : Program} {w : World} {c : Cx prog w (heapK w.params)} {n : Nat} {σ : Sto} {P : Params}
noncomputable abbrev Pt := Int × Int
noncomputable def pp (p : Pt × Pt) : PV := .tup [pairP p.1, pairP p.2]
theorem zipped_pts (l l' : List Pt) : zipped (l.map pairP) (l'.map pairP) = (l.zip l').map pp := by
  unfold zipped
  rw [List.zip_map, List.map_map]
  rfl
theorem seqIndex_last {m : Nat} (h : 0 < m) : seqIndex? (-1) m = some (m - 1) := by
  unfold seqIndex?
  have h0 : (-1 : Int) < 0 := by (first | lia | omega)
  have h1 : (0 : Int) ≤ -1 + m := by (first | lia | omega)
  have h2 : (-1 + m : Int) < m := by (first | lia | omega)
  simp only [h0, h1, h2, decide_true, Bool.and_self, if_true]
  congr 1; (first | lia | omega)
noncomputable def contourPairs (pts : List Pt) : List (Pt × Pt) := pts.zip (pts.drop 1) ++ (if 1 < pts.length then [(pts.getLastD (0, 0), pts.headD (0, 0))] else [])
noncomputable def contourSides (pts : List Pt) : List SideV := (contourPairs pts).filterMap fun p => sideV p.1 p.2
theorem contourPairs_len (pts : List Pt) : (contourPairs pts).length ≤ pts.length + 1 := by
  unfold contourPairs
  rw [List.length_append, List.length_zip]
  split <;> simp <;> (first | lia | omega)
theorem d_sides_of_contour {pts : List Pt} (h1 : 1 ≤ pts.length) (h2 : pts.length ≤ 1000) : Dc c (n + 4) (.ref 190) [.tup (pts.map pairP), .bool true] σ (.lst ((contourSides pts).map sideP)) :=
  Dc.ofList <| Cc.ca <| Cc.fn ["spots", "is_closed"] rfl (argn2 fun _ _ => rfl) fun L cells => by
    refine Xs.cons (Ex.assign (i := 2) rfl (Ev.listZip (i := 7) (i' := 8) rfl b_list rfl b_zip (Ds.es (Ds.cons (De.nm rfl) (Ds.cons (De.sliceFrom (a := 1) (De.nm rfl) (by decide) (by simpa using h1) (by simp; (first | lia | omega))) Ds.nil)) ⟨_, _, _, _, rfl, .inr rfl, .inr rfl, by simp; (first | lia | omega), fun a ha => ?_⟩)))
    have e0 : zipped (pts.map pairP) ((pts.map pairP).drop 1) = (pts.zip (pts.drop 1)).map pp := by rw [← List.map_drop, zipped_pts]
    rw [e0]
    have hl : 0 < (pts.map pairP).length := by simp; (first | lia | omega)
    refine Xs.ifJ (fun ρ' σ' => ρ' = [some (.tup (pts.map pairP)), some (.bool true), some (.at a), none, none, none, none, none, none, none, none] ∧ σ' = σ.upd a (.list ((contourPairs pts).map pp))) (Dt.and2 (Dt.val (De.nm rfl)) fun _ => Dt.cmp (De.bf Boot.len b_len (Ds.cons (De.nm rfl) Ds.nil) (Dc.lenT (by simp; (first | lia | omega)))) De.num) (fun hb => ?_) (fun hb => ?_) fun ρ' σ' hJ => ?_
    · have hlt : 1 < pts.length := by
        have : (1 : Int) < pts.length := by simpa [cmpI] using hb
        (first | lia | omega)
      refine Xs.app (pp (pts.getLastD (0, 0), pts.headD (0, 0))) (De.nm rfl) (De.tp (Ds.cons (De.item (De.nm rfl) (De.neg De.num) (by decide) (by decide) (seqIndex_last hl) ?_) (Ds.cons (De.item (j := 0) (De.nm rfl) De.num (by decide) (by decide) (seqIndex_nat hl) ?_) Ds.nil))) (by simp; (first | lia | omega)) (Xs.nil ⟨rfl, ?_⟩)
      · rw [List.getElem?_map, List.length_map]
        cases pts with
        | nil => simp at hlt
        | cons x l => simp [List.getLastD_eq_getLast?, List.getLast?_eq_getElem?]
      · cases pts with
        | nil => simp at hlt
        | cons x l => rfl
      · unfold contourPairs
        rw [if_pos hlt, List.map_append]; rfl
    · have hlt : ¬ 1 < pts.length := by
        have : (pts.length : Int) ≤ 1 := by simpa [cmpI] using hb
        (first | lia | omega)
      refine ⟨rfl, ?_⟩
      unfold contourPairs
      rw [if_neg hlt, List.append_nil]
    · obtain ⟨rfl, rfl⟩ := hJ
      refine Xs.frzL (i := 2) ha rfl ?_
      refine Xs.newL 3 fun b hb => ?_
      refine Xs.for (It.sq (De.nm rfl) (.inl rfl) (Loop.inv (I := fun k ρ σ' => (Some3 (fun u v w2 => [some (.tup (pts.map pairP)), some (.bool true), some (.lst ((contourPairs pts).map pp)), some (.at b), u, v, w2, none, none, none, none]) ρ) ∧ σ' = σ.upd b (.list ((((contourPairs pts).take k).filterMap fun p => sideV p.1 p.2).map sideP))) (fun k p ρ σ' hk hI => ?_) (fun ρ σ' hI => ?_) _ _ ⟨⟨none, none, none, rfl⟩, by simp⟩))
      · obtain ⟨⟨u, v, w2, rfl⟩, rfl⟩ := hI
        rw [List.getElem?_map, Option.map_eq_some_iff] at hk
        obtain ⟨⟨p1, p2⟩, hk, rfl⟩ := hk
        refine ⟨_, As.pr (.cons (As.nm (i := 4)) (.cons (As.nm (i := 5)) (.nil _))) ⟨rfl, rfl, trivial⟩, ?_⟩
        refine Xs.let 6 (sideO (sideV p1 p2)) (De.fn f_side_between (Ds.cons (De.nm rfl) (Ds.cons (De.nm rfl) Ds.nil)) d_side_between) ?_
        have hstep : ((contourPairs pts).take (k + 1)).filterMap (fun p => sideV p.1 p.2) = ((contourPairs pts).take k).filterMap (fun p => sideV p.1 p.2) ++ (sideV p1 p2).toList := by
          rw [List.take_add_one, hk, List.filterMap_append]
          cases h : sideV p1 p2 <;> simp [h]
        have hlen : (((contourPairs pts).take k).filterMap (fun p => sideV p.1 p.2)).length ≤ 100000 := by
          have a1 := List.length_filterMap_le (fun p : Pt × Pt => sideV p.1 p.2) ((contourPairs pts).take k)
          have a2 := contourPairs_len pts
          rw [List.length_take] at a1
          (first | lia | omega)
        cases hs : sideV p1 p2 with
        | none =>
          refine Xs.skip (Dt.is (Dt.isNotNone (De.nm rfl)) ?_) (Xs.nil ⟨⟨_, _, _, rfl⟩, ?_⟩)
          · rfl
          · rw [hstep, hs]; simp
        | some sd =>
          refine Xs.take (Dt.is (Dt.isNotNone (De.nm rfl)) ?_) ?_
          · rfl
          · refine Xs.app (sideP sd) (De.nm rfl) (De.nm rfl) (by simpa using hlen) (Xs.nil (Xs.nil ⟨⟨_, _, _, rfl⟩, ?_⟩))
            rw [hstep, hs]; simp
      · obtain ⟨⟨u, v, w2, rfl⟩, rfl⟩ := hI
        refine Xs.give (.at b) (De.nm rfl) ⟨b, rfl, hb, ?_⟩
        rw [List.length_map, List.take_length]; rfl
end
section
variable {prog : Program} {w : World} {K : Frag} {c : Cx prog w K} {n : Nat} {env : Env} {ρ : List (Option PV)} {σ : Sto} {rest : List Stmt} {Q : FV → List (Option PV) → Sto → Prop}
theorem Xs.ext {o e : PySem.Expr} {apos cpos pos : Pos} {a : Addr} {l m : List PV} (ho : De c n env ρ (σ.upd a (.list l)) o (.at a)) (h : De c n env ρ (σ.upd a (.list l)) e (.lst m)) (hz : l.length ≤ 100000) (hz' : m.length ≤ 100000) (r : Xs c n env rest ρ (σ.upd a (.list (l ++ m))) Q)
    (hi : interactive env = false := by rfl) (hs : swapsWith (.Call (.Attribute o "extend" apos) [e] [] cpos) none pos.line env = pure false := by rfl)
    (h1 : attributeBase o "extend" env (eval o env) = eval o env := by rfl)
    (h2 : ((((backTo cpos (starEach [e] env)).all fun x => !x.fst) && (backToKw cpos (keywordEach [] env)).all fun x => x.fst.isSome) && decide (([e].length + ([] : List Keyword).length + if ([] : List Keyword).isEmpty = true then 0 else 1) < 30)) = true := by rfl)
    (h3 : (apos.endLine == cpos.line) = true := by rfl) (hp : (backTo cpos (starEach [e] env)).any (·.1) = false := by rfl) (he : starEach [e] env = (false, eval e env) :: starEach [] env := by rfl) :
    Xs c n env (.Expr (.Call (.Attribute o "extend" apos) [e] [] cpos) pos :: rest) ρ (σ.upd a (.list l)) Q :=
  Xs.cons (Ex.expr (Ev.bm ho (.inl ⟨rfl, l, upd_self⟩) (Es.cons (h.ev (Es.nil (Ca.extend upd_self hz hz' (by rw [upd_upd]; exact r)))) he) F.plainAttrs_list F.slot_list_extend F.type_list_extend h1 h2 h3 hp (.inr ⟨_, _, rfl, he⟩)) hi hs)
end
section
variable {prog : Program} {w : World} {c : Cx prog w (heapK w.params)} {n : Nat} {σ : Sto} {P : Params}
noncomputable def contP (pts : List Pt) : PV := .tup [.tup (pts.map pairP), .bool true]
noncomputable def contsP (cs : List (List Pt)) : PV := .lst (cs.map contP)
structure Conts (cs : List (List Pt)) : Prop where
  ne : cs ≠ []
  few : cs.length ≤ 10
  one : ∀ pts ∈ cs, 1 ≤ pts.length ∧ pts.length ≤ 20
  sm : ∀ pts ∈ cs, ∀ p ∈ pts, p.1.natAbs < 2 ^ 10 ∧ p.2.natAbs < 2 ^ 10
noncomputable def sidesOf (cs : List (List Pt)) : List SideV := cs.flatMap contourSides
theorem contourSides_len (pts : List Pt) : (contourSides pts).length ≤ pts.length + 1 := Nat.le_trans (List.length_filterMap_le _ _) (contourPairs_len pts)
theorem sidesOf_len {cs : List (List Pt)} (h : ∀ pts ∈ cs, pts.length ≤ 20) : (sidesOf cs).length ≤ 21 * cs.length := by
  unfold sidesOf
  induction cs with
  | nil => simp
  | cons x cs ih =>
    have := ih fun p hp => h p (List.mem_cons_of_mem _ hp)
    have h1 := contourSides_len x
    have h2 := h x List.mem_cons_self
    simp only [List.flatMap_cons, List.length_append, List.length_cons]
    (first | lia | omega)
theorem d_sides_of {cs : List (List Pt)} (hc : Conts cs) : Dc c (n + 5) (.ref 198) [contsP cs] σ (.lst ((sidesOf cs).map sideP)) :=
  Dc.ofList <| Cc.ca <| Cc.def (l := [contsP cs, .bool true]) (xs := [Str.ofString "contours", Str.ofString "is_closing"]) rfl rfl rfl rfl (by decide) rfl
    (fun s bad vs hg r => by
      obtain ⟨v, rfl, rv⟩ := one_arg r
      exact ⟨[v, .bool true], BindsTo.of_defaults rfl (hg _ _ (c.X 191 _ rfl)) rfl rfl rfl, Reps.cons rv (Reps.cons Rep.bool Reps.nil)⟩) rfl rfl rfl fun L cells => by
    refine Xs.newL 2 fun b hb => ?_
    refine Xs.for (It.sq (De.nm rfl) (.inl rfl) (Loop.inv (I := fun k ρ σ' => (Some2 (fun u v => [some (contsP cs), some (.bool true), some (.at b), u, v, none]) ρ) ∧ σ' = σ.upd b (.list ((sidesOf (cs.take k)).map sideP))) (fun k p ρ σ' hk hI => ?_) (fun ρ σ' hI => ?_) _ _ ⟨⟨none, none, rfl⟩, by simp [sidesOf]⟩))
    · obtain ⟨⟨u, v, rfl⟩, rfl⟩ := hI
      rw [List.getElem?_map, Option.map_eq_some_iff] at hk
      obtain ⟨pts, hk, rfl⟩ := hk
      have hm := hc.one pts (List.mem_of_getElem? hk)
      refine ⟨_, As.pr (.cons (As.nm (i := 3)) (.cons (As.nm (i := 4)) (.nil _))) ⟨rfl, rfl, trivial⟩, ?_⟩
      have hz : (sidesOf (cs.take k)).length ≤ 21 * (cs.take k).length := sidesOf_len fun p hp => (hc.one p (List.mem_of_mem_take hp)).2
      have hf := hc.few
      rw [List.length_take] at hz
      refine Xs.ext (De.nm rfl) (De.fn f_sides_of_contour (Ds.cons (De.nm rfl) (Ds.cons (De.or2 (De.nm rfl) fun _ => De.nm rfl) Ds.nil)) (d_sides_of_contour hm.1 (by (first | lia | omega)))) (by rw [List.length_map]; (first | lia | omega)) (by rw [List.length_map]; have := contourSides_len pts; (first | lia | omega)) (Xs.nil ⟨⟨_, _, rfl⟩, ?_⟩)
      rw [List.take_add_one, hk, sidesOf, sidesOf, List.flatMap_append, List.map_append]
      simp
    · obtain ⟨⟨u, v, rfl⟩, rfl⟩ := hI
      refine Xs.give (.at b) (De.nm rfl) ⟨b, rfl, hb, ?_⟩
      rw [List.length_map, List.take_length]
end
section
variable {prog : Program} {w : World} {K : Frag} {c : Cx prog w K} {n : Nat} {env : Env} {ρ : List (Option PV)} {σ : Sto} {rest : List Stmt} {Q : FV → List (Option PV) → Sto → Prop}
theorem Xs.swap {ts : List PySem.Expr} {m : Nat} {tpos pos : Pos} {e : PySem.Expr} {xs : List Str} (h : Ev c n env e ρ σ fun p' σ₁ => ∃ l ρ', p' = .tup l ∧ xs.length = l.length ∧ Sts env xs.reverse l.reverse ρ ρ' ∧ Xs c n env rest ρ' σ₁ Q)
    (hs : swapsWithSole [.Tuple ts m tpos] e pos.line env = pure false := by rfl) (hw : swappedStores [.Tuple ts m tpos] e env = pure (some xs) := by rfl) : Xs c n env (.Assign [.Tuple ts m tpos] e pos :: rest) ρ σ Q := Xs.cons fun A X s rm S R => by
  refine Assign_Tuple_swapped (Ev.then h rm S R fun v s₁ p' σ₁ rv S₁ R₁ x₁ q => ?_) hs hw
  obtain ⟨l, ρ', rfl, hl, a, q⟩ := q
  obtain ⟨t, vs, rfl, hb, ht, rl⟩ := rv.tup_inv
  have hn : xs.length = vs.toArray.size := by rw [List.size_toArray, rl.length, hl]
  rw [hn]
  refine unpackItems_tuple rm.handled ht fun h' he => ?_
  have hk := extBut_new he
  refine wpAny_mono (store_all a (s := { s₁ with heap := h' }) (S₁.ext hk) (R₁.ext hk) ((rl.stay (stay_ext hk)).reverse)) (fun _ s₂ ⟨S₂, R₂, x₂⟩ => ?_) fun _ _ x => x
  exact ⟨.next, _, σ₁, rfl, S₂, R₂, (x₁.trans (step_ext (tk := s₁.toks) hk) S₁ R.ok.own).trans x₂ (S₁.ext hk) R.ok.own, q⟩
end
section
variable {prog : Program} {w : World} {c : Cx prog w (heapK w.params)} {n : Nat} {σ : Sto} {P : Params}
noncomputable def betweenV (ss : List SideV) (low high : Int) : List SideV := ss.filter fun s => decide (s.y1 < high) && decide (low < s.y2)
theorem d_sides_between {ss : List SideV} {low high : Int} (hz : ss.length ≤ 10000) : Dc c (n + 2) (.ref 203) [.lst (ss.map sideP), .int low, .int high] σ (.lst ((betweenV ss low high).map sideP)) :=
  Cc.ca <| Cc.fn ["sides", "low", "high"] rfl (argn3 fun _ _ _ => rfl) fun L cells => by
    refine Xs.ret (Ev.comp [none, none, some 2, some 1] (It.sq (De.nm rfl) (.inl rfl) fun C cl => ?_))
    refine CL.inv (tgt := fun p ρ => ρ.set 1 (some p)) (I := fun k acc σ' => acc = ((betweenV (ss.take k) low high).map sideP) ∧ σ' = σ) _ (fun p ρ _ => As.name rfl (.inl rfl)) (fun p q ρ _ _ => List.set_set ..) (fun k p acc σ' hk hI => ?_) (fun acc ρ σ' hI => ?_) _ _ ⟨rfl, rfl⟩
    · obtain ⟨rfl, rfl⟩ := hI
      rw [List.getElem?_map, Option.map_eq_some_iff] at hk
      obtain ⟨s, hk, rfl⟩ := hk
      have hstep : betweenV (ss.take (k + 1)) low high = betweenV (ss.take k) low high ++ betweenV [s] low high := by
        unfold betweenV
        rw [List.take_add_one, hk, List.filter_append]; rfl
      have hlen : ((betweenV (ss.take k) low high).map sideP).length ≤ 100000 := by
        have := List.length_filter_le (fun s : SideV => decide (s.y1 < high) && decide (low < s.y2)) (ss.take k)
        rw [List.length_take] at this
        rw [List.length_map]; unfold betweenV; omega
      refine ⟨decide (s.y1 < high) && decide (low < s.y2), Dt.is (Dt.and2 (Dt.cmp (De.fld (De.nm rfl) a_Side_y1) (De.nm rfl)) fun _ => Dt.cmp (De.fld (De.nm rfl) a_Side_y2) (De.nm rfl)) rfl, fun hb => ⟨hlen, De.ev (De.nm rfl) ⟨?_, rfl⟩⟩, fun hb => ⟨?_, rfl⟩⟩
      · rw [hstep, List.map_append]; congr 1; unfold betweenV; rw [List.filter_cons, if_pos hb]; rfl
      · rw [hstep, List.map_append]; unfold betweenV; rw [List.filter_cons (x := s), hb]; simp
    · obtain ⟨rfl, rfl⟩ := hI
      rw [List.length_map, List.take_length]
      exact ⟨rfl, rfl⟩
structure SideOk (s : SideV) : Prop where
  up : s.y1 < s.y2
  b1 : s.y1.natAbs < 2 ^ 12
  b2 : s.y2.natAbs < 2 ^ 12
  way : s.way = 1 ∨ s.way = -1
noncomputable def stepsV (ss : List SideV) (y step : Int) : List (Int × Int) := (ss.filter fun s => coversV s y).map fun s => (colBehindV (placeV s y) (s.y2 - s.y1) step, s.way)
theorem d_steps_of_row {ss : List SideV} {y step : Int} (ho : ∀ s ∈ ss, SideOk s) (hz : ss.length < 64) (hy : y.natAbs < 2 ^ 12) (h0 : step ≠ 0) (hs : step.natAbs < 2 ^ 12) :
    Ca c (n + 4) (.ref 120) [.lst (ss.map sideP), .int y, .int step] σ fun p σ' => ∃ l' : List (Int × Int), l'.Perm (stepsV ss y step) ∧ SortedPairs l' ∧ p = .lst (l'.map pairP) ∧ σ' = σ :=
  Cc.ca <| Cc.fn ["sides", "y", "step"] rfl (argn3 fun _ _ _ => rfl) fun L cells => by
    refine Xs.newL 3 fun b hb => ?_
    refine Xs.for (It.sq (De.nm rfl) (.inl rfl) (Loop.inv (I := fun k ρ σ' => (Some1 (fun u => [some (.lst (ss.map sideP)), some (.int y), some (.int step), some (.at b), u, none, none]) ρ) ∧ σ' = σ.upd b (.list ((stepsV (ss.take k) y step).map pairP))) (fun k p ρ σ' hk hI => ?_) (fun ρ σ' hI => ?_) _ _ ⟨⟨none, rfl⟩, rfl⟩))
    · obtain ⟨⟨u, rfl⟩, rfl⟩ := hI
      rw [List.getElem?_map, Option.map_eq_some_iff] at hk
      obtain ⟨s, hk, rfl⟩ := hk
      have so := ho s (List.mem_of_getElem? hk)
      refine ⟨_, As.nm (i := 4), ?_⟩
      have hstep : stepsV (ss.take (k + 1)) y step = stepsV (ss.take k) y step ++ stepsV [s] y step := by
        unfold stepsV
        rw [List.take_add_one, hk, List.filter_append, List.map_append]; rfl
      have hlen : ((stepsV (ss.take k) y step).map pairP).length ≤ 100000 := by
        have := List.length_filter_le (fun s : SideV => coversV s y) (ss.take k)
        rw [List.length_take] at this
        rw [List.length_map]; unfold stepsV; rw [List.length_map]; (first | lia | omega)
      refine Xs.ifs (Dt.val (De.meth (De.nm rfl) m_Side_covers (by decide) (Ds.cons (De.nm rfl) Ds.nil) d_covers)) (fun hc => ?_) fun hc => Xs.nil ⟨⟨_, rfl⟩, ?_⟩
      · refine Xs.app (pairP (colBehindV (placeV s y) (s.y2 - s.y1) step, s.way)) (De.nm rfl) (De.tp (Ds.cons (De.fn f_column_behind (Ds.cons (De.meth (De.nm rfl) m_Side_place_at (by decide) (Ds.cons (De.nm rfl) Ds.nil) (d_place_at so.b1 so.b2 hy)) (Ds.cons (De.nm rfl) Ds.nil)) (d_column_behind ?_ h0 ?_ ?_)) (Ds.cons (De.fld (De.nm rfl) a_Side_way) Ds.nil))) hlen (Xs.nil (Xs.nil ⟨⟨_, rfl⟩, ?_⟩))
        · exact fun e => absurd so.up (by rw [Int.sub_eq_zero.mp e]; exact Int.lt_irrefl _)
        · exact abs_sub so.b2 so.b1
        · exact abs_lt hs
        · rw [hstep, List.map_append]; unfold stepsV; rw [List.filter_cons (x := s), if_pos hc]; rfl
      · rw [hstep, List.map_append]; unfold stepsV; rw [List.filter_cons (x := s), hc]; simp
    · obtain ⟨⟨u, rfl⟩, rfl⟩ := hI
      rw [List.length_map, List.take_length]
      refine Xs.frzL (i := 3) hb rfl (Xs.ret (Ev.bf Boot.sorted b_sorted (Ds.es (Ds.cons (De.nm rfl) Ds.nil) (Ca.sorted (fun p hp => ?_) ?_ fun l' h1 h2 => ⟨l', h1, h2, rfl, rfl⟩))))
      · unfold stepsV at hp
        obtain ⟨s, hs, rfl⟩ := List.mem_map.mp hp
        exact (ho s (List.mem_filter.mp hs).1).way
      · unfold stepsV
        rw [List.length_map]
        exact Nat.lt_of_le_of_lt (List.length_filter_le _ _) hz
end
section
variable {prog : Program} {w : World} {c : Cx prog w (heapK w.params)} {n : Nat} {σ : Sto} {P : Params}
noncomputable def nextSame : List (Int × Int) → Int → Bool
  | [], _ => false
  | x :: _, col => x.1 == col
noncomputable def spansGo (rule : Str) : List (Int × Int) → Int → Option Int → List (Int × Int)
  | [], _, _ => []
  | (col, d) :: rest, wi, be => if nextSame rest col = true then spansGo rule rest (wi + d) be
    else if insideV (wi + d) rule = true then spansGo rule rest (wi + d) (some (be.getD col))
    else match be with
      | some b0 => (b0, col) :: spansGo rule rest (wi + d) none
      | none => spansGo rule rest (wi + d) none
theorem spansGo_cons {rule : Str} {col d wi : Int} {rest : List (Int × Int)} {be : Option Int} : spansGo rule ((col, d) :: rest) wi be = if nextSame rest col = true then spansGo rule rest (wi + d) be
    else if insideV (wi + d) rule = true then spansGo rule rest (wi + d) (some (be.getD col))
    else match be with
      | some b0 => (b0, col) :: spansGo rule rest (wi + d) none
      | none => spansGo rule rest (wi + d) none := rfl
noncomputable def spansV (changes : List (Int × Int)) (rule : Str) : List (Int × Int) := spansGo rule changes 0 none
noncomputable def optP : Option Int → PV
  | none => .none
  | some x => .int x
theorem numbered_pts {l : List (Int × Int)} {k : Nat} {p : PV} (h : (numbered (l.map pairP))[k]? = some p) : ∃ x, l[k]? = some x ∧ p = .tup [.int (k : Int), pairP x] := by
  obtain ⟨q, hq, rfl⟩ := numbered_get h
  rw [List.getElem?_map, Option.map_eq_some_iff] at hq
  obtain ⟨x, hx, rfl⟩ := hq
  exact ⟨x, hx, rfl⟩
theorem d_spans_by {ch : List (Int × Int)} {rule : Str} (hz : ch.length ≤ 1000) : Dc c (n + 2) (.ref 127) [.lst (ch.map pairP), .str rule] σ (.lst ((spansV ch rule).map pairP)) :=
  Dc.ofList <| Cc.ca <| Cc.fn ["changes", "rule"] rfl (argn2 fun _ _ => rfl) fun L cells => by
    refine Xs.swap (xs := [Str.ofString "found", Str.ofString "winding", Str.ofString "begin"]) (Ev.tuple (Es.cons (Ev.listAt (Es.nil ⟨by decide, fun b hb => ?_⟩))))
    refine Es.cons (De.ev De.num (Es.cons (De.ev De.nothing (Es.nil ⟨by exact Nat.le_of_ble_eq_true rfl, [.at b, .int 0, .none], _, rfl, rfl, .cons (i := 4) rfl (.inl rfl) (.cons (i := 3) rfl (.inl rfl) (.cons (i := 2) rfl (.inl rfl) (.nil _))), ?_⟩))))
    refine Xs.for (It.en b_enumerate (Ds.cons (De.nm rfl) Ds.nil) (Loop.inv (I := fun k ρ σ' => E34 (fun (wi : Int) (be : Option Int) (fd : List (Int × Int)) => (Some3 (fun u v x => [some (.lst (ch.map pairP)), some (.str rule), some (.at b), some (.int wi), some (optP be), u, v, x, none, none, none]) ρ)) (fun (wi : Int) (be : Option Int) (fd : List (Int × Int)) => σ' = σ.upd b (.list (fd.map pairP))) (fun (wi : Int) (be : Option Int) (fd : List (Int × Int)) => fd.length ≤ k) (fun (wi : Int) (be : Option Int) (fd : List (Int × Int)) => fd ++ spansGo rule (ch.drop k) wi be = spansV ch rule)) (fun k p ρ σ' hk hI => ?_) (fun ρ σ' hI => ?_) _ _ ⟨0, none, [], ⟨none, none, none, rfl⟩, rfl, Nat.le_refl _, rfl⟩))
    · obtain ⟨wi, be, fd, ⟨u, v, x, rfl⟩, rfl, hfl, heq⟩ := hI
      obtain ⟨⟨col, d⟩, hc, rfl⟩ := numbered_pts hk
      have hlt : k < ch.length := (List.getElem?_eq_some_iff.mp hc).1
      have hdrop : ch.drop k = (col, d) :: ch.drop (k + 1) := by
        rw [List.drop_eq_getElem_cons hlt]
        congr 1
        exact (List.getElem?_eq_some_iff.mp hc).2
      rw [hdrop] at heq
      refine ⟨_, As.pr (.cons (As.nm (i := 5)) (.cons (As.pr (.cons (As.nm (i := 6)) (.cons (As.nm (i := 7)) (.nil _))) ⟨rfl, rfl, trivial⟩) (.nil _))) ⟨rfl, rfl, trivial⟩, ?_⟩
      refine Xs.let 3 (.int (wi + d)) (De.add (De.nm rfl) (De.nm rfl)) ?_
      refine Xs.ifs (b := nextSame (ch.drop (k + 1)) col) (Dt.is (Dt.and2 (b := nextSame (ch.drop (k + 1)) col) (Dt.cmp (De.add (De.nm rfl) De.num) (De.bf Boot.len b_len (Ds.cons (De.nm rfl) Ds.nil) (Dc.lenL (by rw [List.length_map]; (first | lia | omega))))) fun h => ?_) ?_) (fun hs => ?_) fun hs => ?_
      · have hk1 : k + 1 < ch.length := by
          have : (k : Int) + 1 < (ch.map pairP).length := by simpa [cmpI] using h
          rw [List.length_map] at this; (first | lia | omega)
        have e : nextSame (ch.drop (k + 1)) col = cmpI .Eq ch[k + 1].1 col := by rw [List.drop_eq_getElem_cons hk1]; rfl
        rw [e]
        refine Dt.cmp (De.fst (a := ch[k + 1]) (De.itemL (j := k + 1) (De.nm rfl) (De.add (De.nm rfl) De.num) (by (first | lia | omega)) (by (first | lia | omega)) ?_ ?_)) (De.nm rfl)
        · have := seqIndex_nat (k := k + 1) (n := (ch.map pairP).length) (by rw [List.length_map]; exact hk1)
          simpa using this
        · rw [List.getElem?_map, List.getElem?_eq_getElem hk1]; rfl
      · by_cases hk1 : k + 1 < ch.length
        · have : cmpI .Lt ((k : Int) + 1) ((ch.map pairP).length : Int) = true := by
            rw [List.length_map]; simp [cmpI]; (first | lia | omega)
          rw [this]; rfl
        · have : ch.drop (k + 1) = [] := List.drop_eq_nil_iff.mpr (by (first | lia | omega))
          rw [this]
          simp [nextSame]
      · refine Xs.cons (Ex.cont ⟨wi + d, be, fd, ⟨_, _, _, rfl⟩, rfl, by (first | lia | omega), ?_⟩)
        rw [← heq, spansGo_cons, if_pos hs]
      · have hs' : ¬ nextSame (ch.drop (k + 1)) col = true := by rw [hs]; exact Bool.false_ne_true
        refine Xs.cons (Ex.ifs (b := insideV (wi + d) rule) (Dt.val (De.fn f_is_inside (Ds.cons (De.nm rfl) (Ds.cons (De.nm rfl) Ds.nil)) d_is_inside)) (fun hi => ?_) fun hi => ?_)
        · refine Xs.let 4 (optP (some (be.getD col))) ?_ (Xs.nil (Xs.nil ⟨wi + d, some (be.getD col), fd, ⟨_, _, _, rfl⟩, rfl, by (first | lia | omega), ?_⟩))
          · cases be with
            | none => exact De.is (De.ifexp (Dt.isNone (De.nm rfl)) (fun _ => De.nm rfl) fun _ => De.nm rfl) rfl
            | some b0 => exact De.is (De.ifexp (Dt.isNone (De.nm rfl)) (fun _ => De.nm rfl) fun _ => De.nm rfl) rfl
          · rw [← heq, spansGo_cons, if_neg hs', if_pos hi]
        · have hi' : ¬ insideV (wi + d) rule = true := by rw [hi]; exact Bool.false_ne_true
          cases be with
          | none =>
            refine Xs.skip (Dt.is (Dt.isNotNone (De.nm rfl)) rfl) (Xs.nil (Xs.nil ⟨wi + d, none, fd, ⟨_, _, _, rfl⟩, rfl, by (first | lia | omega), ?_⟩))
            rw [← heq, spansGo_cons, if_neg hs', if_neg hi']
          | some b0 =>
            refine Xs.take (Dt.is (Dt.isNotNone (De.nm rfl)) rfl) ?_
            refine Xs.app (pairP (b0, col)) (De.nm rfl) (De.tp (Ds.cons (De.nm rfl) (Ds.cons (De.nm rfl) Ds.nil))) (by rw [List.length_map]; (first | lia | omega)) ?_
            refine Xs.let 4 .none De.nothing (Xs.nil (Xs.nil (Xs.nil ⟨wi + d, none, fd ++ [(b0, col)], ⟨_, _, _, rfl⟩, by rw [List.map_append]; rfl, by simp; (first | lia | omega), ?_⟩)))
            rw [← heq, spansGo_cons, if_neg hs', if_neg hi', List.append_assoc]; rfl
    · obtain ⟨wi, be, fd, ⟨u, v, x, rfl⟩, rfl, hfl, heq⟩ := hI
      rw [numbered_length, List.length_map, List.drop_length] at heq
      refine Xs.give (.at b) (De.nm rfl) ⟨b, rfl, hb, ?_⟩
      rw [← heq]; simp [spansGo]
end
section
variable {prog : Program} {w : World} {c : Cx prog w (heapK w.params)} {n : Nat} {σ : Sto} {P : Params}
theorem d_sample_spans {ss : List SideV} {row : Int} {e : Bool} (ho : ∀ s ∈ ss, SideOk s) (hz : ss.length < 64) (hr : row.natAbs < 2 ^ 10) :
    Ca c (n + 5) (.ref 134) [.lst (ss.map sideP), .int row, .str (ruleS e), .int 2, .int 4] σ fun p σ' => ∃ l' : List (Int × Int), l'.Perm (stepsV ss (row * 2 + 1) 2) ∧ SortedPairs l' ∧ p = .lst ((spansV l' (ruleS e)).map pairP) ∧ σ' = σ :=
  Cc.ca <| Cc.fn ["sides", "row", "rule", "fine", "grain"] rfl (argn5 fun _ _ _ _ _ => rfl) fun L cells => by
    refine Xs.cons (Ex.expr (De.ev (De.fn f_check_rule (Ds.cons (De.nm rfl) Ds.nil) d_check_rule) ?_))
    refine Xs.let 5 (.int 2) (De.fn f_step_of (Ds.cons (De.nm rfl) (Ds.cons (De.nm rfl) Ds.nil)) d_step_of) ?_
    refine Xs.ret (Ev.fn f_spans_by (Es.cons (Ev.fn f_steps_of_row (Ds.es (Ds.cons (De.nm rfl) (Ds.cons (De.is (b' := .int (row * 2 + 1)) (De.add (De.mul (De.nm rfl) (De.nm rfl) (smallMul (by decide))) (De.fdiv (De.nm rfl) De.num (by decide) (smallDiv (by decide)))) rfl) (Ds.cons (De.nm rfl) Ds.nil))) (Ca.mono (d_steps_of_row ho hz (by omega) (by decide) (by decide)) fun p σ' hp => ?_)))))
    obtain ⟨l', h1, h2, rfl, rfl⟩ := hp
    refine Es.cons (De.ev (De.nm rfl) (Es.nil (Ca.mono (d_spans_by ?_) fun p σ' hp => ?_)))
    · rw [h1.length_eq]
      unfold stepsV
      rw [List.length_map]
      have := List.length_filter_le (fun s : SideV => coversV s (row * 2 + 1)) ss
      omega
    · obtain ⟨rfl, rfl⟩ := hp
      exact ⟨l', h1, h2, rfl, rfl⟩
noncomputable def maskN : List Str := ["left", "top", "width", "height", "fine", "counts"]
noncomputable def maskP (l t wd ht : Int) (a : Addr) : PV := .obj 283 maskN [.int l, .int t, .int wd, .int ht, .int 2, .at a]
theorem a_Mask_left : AttrOk (heapK P) 283 "left" := ⟨rfl, rfl, _, rfl, rfl⟩
theorem a_Mask_top : AttrOk (heapK P) 283 "top" := ⟨rfl, rfl, _, rfl, rfl⟩
theorem a_Mask_width : AttrOk (heapK P) 283 "width" := ⟨rfl, rfl, _, rfl, rfl⟩
theorem a_Mask_height : AttrOk (heapK P) 283 "height" := ⟨rfl, rfl, _, rfl, rfl⟩
theorem a_Mask_fine : AttrOk (heapK P) 283 "fine" := ⟨rfl, rfl, _, rfl, rfl⟩
theorem a_Mask_counts : AttrOk (heapK P) 283 "counts" := ⟨rfl, rfl, _, rfl, rfl⟩
theorem s_Mask_left : SetOk (heapK P) 283 "left" := ⟨rfl, rfl, rfl, rfl⟩
theorem s_Mask_top : SetOk (heapK P) 283 "top" := ⟨rfl, rfl, rfl, rfl⟩
theorem s_Mask_width : SetOk (heapK P) 283 "width" := ⟨rfl, rfl, rfl, rfl⟩
theorem s_Mask_height : SetOk (heapK P) 283 "height" := ⟨rfl, rfl, rfl, rfl⟩
theorem s_Mask_fine : SetOk (heapK P) 283 "fine" := ⟨rfl, rfl, rfl, rfl⟩
theorem s_Mask_counts : SetOk (heapK P) 283 "counts" := ⟨rfl, rfl, rfl, rfl⟩
theorem m_Mask_most : MethOk (heapK P) 283 "most" 231 := ⟨rfl, rfl, rfl, rfl⟩
theorem m_Mask_place : MethOk (heapK P) 283 "place" 238 := ⟨rfl, rfl, rfl, rfl⟩
theorem m_Mask_count : MethOk (heapK P) 283 "count" 245 := ⟨rfl, rfl, rfl, rfl⟩
theorem m_Mask_alpha : MethOk (heapK P) 283 "alpha" 252 := ⟨rfl, rfl, rfl, rfl⟩
theorem m_Mask_add : MethOk (heapK P) 283 "add" 259 := ⟨rfl, rfl, rfl, rfl⟩
noncomputable def cntL (m : Nat) (f : Nat → Int) : List PV := (List.range m).map fun j => .int (f j)
theorem cntL_len (m : Nat) (f : Nat → Int) : (cntL m f).length = m := by unfold cntL; simp
theorem cntL_get {m : Nat} {f : Nat → Int} {j : Nat} (h : j < m) : (cntL m f)[j]? = some (.int (f j)) := by unfold cntL; rw [List.getElem?_map, List.getElem?_range h]; rfl
theorem cntL_set {m : Nat} {f : Nat → Int} {j : Nat} {v : Int} (h : j < m) : (cntL m f).set j (.int v) = cntL m fun i => if i = j then v else f i := by
  unfold cntL
  apply List.ext_getElem (by simp)
  intro i h1 h2
  simp only [List.length_set, List.length_map, List.length_range] at h1
  rw [List.getElem_set]
  by_cases e : j = i
  · subst e; simp
  · rw [if_neg e]
    have e' : ¬ i = j := fun z => e z.symm
    simp [e']
theorem upd_comm {a b : Addr} {x y : Box} (h : a ≠ b) : (σ.upd a x).upd b y = (σ.upd b y).upd a x := by
  funext z
  unfold Sto.upd
  by_cases h1 : z = a
  · by_cases h2 : z = b
    · exact absurd (h1.symm.trans h2) h
    · simp [h1, h2, h]
  · by_cases h2 : z = b
    · simp [h1, h2]
      intro e; exact absurd e.symm h
    · simp [h1, h2]
theorem drop_mid {a b : Addr} {x y : Box} (h : a ≠ b) (hb : σ b = none) : ((σ.upd a x).upd b y).drop b = σ.upd a x := drop_upd (by rw [upd_ne (fun e => h e.symm)]; exact hb)
theorem d_Mask {l t wd ht : Int} (hw : 0 ≤ wd) (hh : 0 ≤ ht) (hw' : wd ≤ 100) (hh' : ht ≤ 100) :
    Ca c (n + 2) (.ref 283) [.int l, .int t, .int wd, .int ht, .int 2] σ fun p σ' => ∃ a, σ a = none ∧ p = maskP l t wd ht a ∧ σ' = σ.upd a (.list (cntL (wd * ht).toNat fun _ => 0)) :=
  Ca.make (fI := 224) rfl rfl rfl fun d hd => Cc.fn ["self", "left", "top", "width", "height", "fine"] rfl (argn6 fun _ _ _ _ _ _ => rfl) fun L cells => by
    refine Xs.skip (Dt.is (Dt.or3 (Dt.cmp (De.nm rfl) De.num) (fun _ => Dt.cmp (De.nm rfl) De.num) (fun _ _ => Dt.cmp (De.nm rfl) De.num)) ?_) ?_
    · simp [cmpI]; (first | lia | omega)
    refine Xs.setA (.int l) s_Mask_left (De.nm rfl) (De.nm rfl) ?_
    refine Xs.setA (.int t) s_Mask_top (De.nm rfl) (De.nm rfl) ?_
    refine Xs.setA (.int wd) s_Mask_width (De.nm rfl) (De.nm rfl) ?_
    refine Xs.setA (.int ht) s_Mask_height (De.nm rfl) (De.nm rfl) ?_
    refine Xs.setA (.int 2) s_Mask_fine (De.nm rfl) (De.nm rfl) ?_
    have hp : 0 ≤ wd * ht := Int.mul_nonneg hw hh
    have hp' : wd * ht ≤ 1000000 := by
      have := Int.mul_le_mul hw' hh' hh (by decide)
      (first | lia | omega)
    refine Xs.setE (d := d) (ns := ["left", "top", "width", "height", "fine"]) (l := [.int l, .int t, .int wd, .int ht, .int 2]) s_Mask_counts (Ev.mulAt (De.ls (Ds.cons De.num Ds.nil)) (De.mul (De.nm rfl) (De.nm rfl) (smallMul (by (first | lia | omega)))) hp hp' fun a ha => ⟨⟨?_, De.nm rfl⟩, Xs.nil ⟨rfl, maskN, [.int l, .int t, .int wd, .int ht, .int 2, .at a], upd_self, a, ?_, rfl, ?_⟩⟩)
    all_goals have had : a ≠ d := fun e => by rw [e, upd_self] at ha; cases ha
    · rw [upd_ne (fun e => had e.symm)]; exact upd_self
    · rw [upd_ne had] at ha; exact ha
    · have e1 : List.replicate (wd * ht).toNat (PV.int 0) = cntL (wd * ht).toNat fun _ => 0 := by
        unfold cntL
        exact List.ext_getElem (by simp) (by intros; simp)
      rw [e1, upd_comm (x := .flds _ _) (fun e => had e.symm), upd_upd, drop_mid had hd]
end
section
variable {prog : Program} {w : World} {c : Cx prog w (heapK w.params)} {n : Nat} {σ : Sto} {P : Params}
theorem idx_in {r q wd ht : Int} (h1 : 0 ≤ r) (h2 : r < ht) (h3 : 0 ≤ q) (h4 : q < wd) : 0 ≤ r * wd + q ∧ r * wd + q < wd * ht := by
  have hw : 0 < wd := by (first | lia | omega)
  have a : 0 ≤ r * wd := Int.mul_nonneg h1 (by (first | lia | omega))
  have b : (r + 1) * wd ≤ ht * wd := Int.mul_le_mul_of_nonneg_right (by (first | lia | omega)) (by (first | lia | omega))
  rw [Int.add_mul, Int.one_mul] at b
  rw [Int.mul_comm wd ht]
  (first | lia | omega)
theorem d_most {l t wd ht : Int} {a : Addr} : Dc c (n + 1) (.ref 231) [maskP l t wd ht a] σ (.int 4) :=
  Cc.ca <| Cc.fn ["self"] rfl (argn1 fun _ => rfl) fun L cells =>
    Xs.give _ (De.mul (De.fld (De.nm rfl) a_Mask_fine) (De.fld (De.nm rfl) a_Mask_fine) (smallMul (by decide))) ⟨rfl, rfl⟩
theorem d_place {l t wd ht x y : Int} {a : Addr} (h1 : l ≤ x) (h2 : x < l + wd) (h3 : t ≤ y) (h4 : y < t + ht) (hw : wd ≤ 100) : Dc c (n + 1) (.ref 238) [maskP l t wd ht a, .int x, .int y] σ (.int ((y - t) * wd + (x - l))) :=
  Cc.ca <| Cc.fn ["self", "x", "y"] rfl (argn3 fun _ _ _ => rfl) fun L cells => by
    refine Xs.swap (xs := [Str.ofString "column", Str.ofString "row"]) (De.ev (pv := .tup [.int (x - l), .int (y - t)]) (De.tp (Ds.cons (De.sub (De.nm rfl) (De.fld (De.nm rfl) a_Mask_left)) (Ds.cons (De.sub (De.nm rfl) (De.fld (De.nm rfl) a_Mask_top)) Ds.nil))) ⟨[.int (x - l), .int (y - t)], _, rfl, rfl, .cons (i := 4) rfl (.inl rfl) (.cons (i := 3) rfl (.inl rfl) (.nil _)), ?_⟩)
    refine Xs.skip (Dt.is (Dt.or2 (Dt.not (Dt.cmp2 De.num (De.nm rfl) (De.fld (De.nm rfl) a_Mask_width))) (fun _ => Dt.not (Dt.cmp2 De.num (De.nm rfl) (De.fld (De.nm rfl) a_Mask_height)))) ?_) ?_
    · simp [cmpI]; (first | lia | omega)
    exact Xs.give _ (De.add (De.mul (De.nm rfl) (De.fld (De.nm rfl) a_Mask_width) (smallMul (by (first | lia | omega)))) (De.nm rfl)) ⟨rfl, rfl⟩
noncomputable def maskIx (l t wd x y : Int) : Nat := ((y - t) * wd + (x - l)).toNat
theorem maskIx_lt {l t wd ht x y : Int} (h1 : l ≤ x) (h2 : x < l + wd) (h3 : t ≤ y) (h4 : y < t + ht) : maskIx l t wd x y < (wd * ht).toNat ∧ ((maskIx l t wd x y : Nat) : Int) = (y - t) * wd + (x - l) := by
  have := idx_in (r := y - t) (q := x - l) (wd := wd) (ht := ht) (by omega) (by omega) (by omega) (by omega)
  unfold maskIx
  omega
theorem d_count {l t wd ht x y : Int} {a : Addr} {f : Nat → Int} (ha : σ a = some (.list (cntL (wd * ht).toNat f))) (h1 : l ≤ x) (h2 : x < l + wd) (h3 : t ≤ y) (h4 : y < t + ht) (hw : wd ≤ 100) (hh : ht ≤ 100) : Dc c (n + 2) (.ref 245) [maskP l t wd ht a, .int x, .int y] σ (.int (f (maskIx l t wd x y))) :=
  Cc.ca <| Cc.fn ["self", "x", "y"] rfl (argn3 fun _ _ _ => rfl) fun L cells => by
    refine Xs.let 3 (.int ((y - t) * wd + (x - l))) (De.meth (De.nm rfl) m_Mask_place (by decide) (Ds.cons (De.nm rfl) (Ds.cons (De.nm rfl) Ds.nil)) (d_place h1 h2 h3 h4 hw)) ?_
    obtain ⟨hi, he⟩ := maskIx_lt h1 h2 h3 h4
    have hb : wd * ht ≤ 1000000 := by
      have := Int.mul_le_mul hw hh (by (first | lia | omega)) (by decide)
      (first | lia | omega)
    refine Xs.give _ (De.is (De.ifexp (Dt.isNone (De.nm rfl)) (fun _ => De.num) fun _ => De.itemAt (j := maskIx l t wd x y) (De.fld (De.nm rfl) a_Mask_counts) (De.nm rfl) ha ?_ ?_ ?_ (cntL_get hi)) rfl) ⟨rfl, rfl⟩
    · (first | lia | omega)
    · (first | lia | omega)
    · rw [← he, cntL_len]; exact seqIndex_nat hi
theorem d_mask_alpha {l t wd ht x y : Int} {a : Addr} {f : Nat → Int} (ha : σ a = some (.list (cntL (wd * ht).toNat f))) (h1 : l ≤ x) (h2 : x < l + wd) (h3 : t ≤ y) (h4 : y < t + ht) (hw : wd ≤ 100) (hh : ht ≤ 100) : Dc c (n + 3) (.ref 252) [maskP l t wd ht a, .int x, .int y] σ (.int (roundedV (255 * f (maskIx l t wd x y)) 4)) :=
  Cc.ca <| Cc.fn ["self", "x", "y"] rfl (argn3 fun _ _ _ => rfl) fun L cells =>
    Xs.give _ (De.fn f_rounded_share (Ds.cons (De.mul (De.gn rfl g_FULL_ALPHA) (De.meth (De.nm rfl) m_Mask_count (by decide) (Ds.cons (De.nm rfl) (Ds.cons (De.nm rfl) Ds.nil)) (d_count ha h1 h2 h3 h4 hw hh)) (smallMul' (by decide))) (Ds.cons (De.meth0 (De.nm rfl) m_Mask_most (by decide) d_most) Ds.nil)) (d_rounded_share (by decide) (by decide))) ⟨rfl, rfl⟩
end
section
variable {prog : Program} {w : World} {K : Frag} {c : Cx prog w K} {n : Nat} {env : Env} {ρ : List (Option PV)} {σ : Sto} {rest : List Stmt} {Q : FV → List (Option PV) → Sto → Prop}
theorem Wl.inv {test : PySem.Expr} {body : List Stmt} (I : Nat → List (Option PV) → Sto → Prop)
    (h : ∀ k ρ σ, I k ρ σ → ∃ b, Dt c n env ρ σ test b ∧ (b = true → ∃ k', k = k' + 1 ∧ Xs c n env body ρ σ (Turn (I k') Q)) ∧ (b = false → Q .next ρ σ)) : ∀ k ρ σ, I k ρ σ → Wl c n env test body Q (k + 1) ρ σ := by
  intro k
  induction k with
  | zero =>
    intro ρ σ hI
    obtain ⟨b, hb, h1, h2⟩ := h 0 ρ σ hI
    exact ⟨b, hb, (fun e => by obtain ⟨k', e', _⟩ := h1 e; cases e'), h2⟩
  | succ k ih =>
    intro ρ σ hI
    obtain ⟨b, hb, h1, h2⟩ := h (k + 1) ρ σ hI
    refine ⟨b, hb, fun e => ?_, h2⟩
    obtain ⟨k', e', hx⟩ := h1 e
    cases e'
    refine Xs.mono hx fun f ρ' σ' q => ?_
    cases f with
    | next => exact ih ρ' σ' q
    | cont => exact ih ρ' σ' q
    | brk => exact q
    | ret p => exact q
theorem Xs.while {test : PySem.Expr} {body : List Stmt} {pos : Pos} (k : Nat) (h : Wl c n env test body (Go c n env rest Q) k ρ σ) : Xs c n env (.While test body [] pos :: rest) ρ σ Q := Xs.cons (Ex.while h)
end
noncomputable def cnt2 (l t wd ht : Int) (g : Int → Int → Int) : List PV := cntL (wd * ht).toNat fun j => g (l + ((j % wd.toNat : Nat) : Int)) (t + ((j / wd.toNat : Nat) : Int))
theorem maskIx_at {l t wd ht x y : Int} (h1 : l ≤ x) (h2 : x < l + wd) (h3 : t ≤ y) (h4 : y < t + ht) : l + ((maskIx l t wd x y % wd.toNat : Nat) : Int) = x ∧ t + ((maskIx l t wd x y / wd.toNat : Nat) : Int) = y := by
  obtain ⟨r, hr⟩ := Int.eq_ofNat_of_zero_le (show 0 ≤ y - t by (first | lia | omega))
  obtain ⟨q, hq⟩ := Int.eq_ofNat_of_zero_le (show 0 ≤ x - l by (first | lia | omega))
  obtain ⟨W, hW⟩ := Int.eq_ofNat_of_zero_le (show 0 ≤ wd by (first | lia | omega))
  subst hW
  have hqW : q < W := by (first | lia | omega)
  have e : maskIx l t W x y = q + W * r := by
    unfold maskIx
    rw [hr, hq]
    have : ((r : Int) * (W : Int) + (q : Int)) = ((q + W * r : Nat) : Int) := by push_cast; rw [Int.mul_comm, Int.add_comm]
    rw [this, Int.toNat_natCast]
  rw [e, Int.toNat_natCast, Nat.add_mul_mod_self_left, Nat.mod_eq_of_lt hqW, Nat.add_mul_div_left _ _ (by (first | lia | omega)), Nat.div_eq_of_lt hqW, Nat.zero_add]
  (first | lia | omega)
theorem ix_inv {l t wd ht : Int} {j : Nat} (hj : j < (wd * ht).toNat) (hw : 0 ≤ wd) (hh : 0 ≤ ht) : l ≤ l + ((j % wd.toNat : Nat) : Int) ∧ l + ((j % wd.toNat : Nat) : Int) < l + wd ∧ t ≤ t + ((j / wd.toNat : Nat) : Int) ∧ t + ((j / wd.toNat : Nat) : Int) < t + ht ∧ maskIx l t wd (l + ((j % wd.toNat : Nat) : Int)) (t + ((j / wd.toNat : Nat) : Int)) = j := by
  obtain ⟨W, hW⟩ := Int.eq_ofNat_of_zero_le hw
  obtain ⟨H, hH⟩ := Int.eq_ofNat_of_zero_le hh
  subst hW; subst hH
  rw [Int.toNat_natCast]
  have e : ((W : Int) * (H : Int)).toNat = W * H := by rw [← Int.natCast_mul, Int.toNat_natCast]
  rw [e] at hj
  have hW0 : 0 < W := by
    rcases Nat.eq_zero_or_pos W with h | h
    · subst h; (first | lia | omega)
    · exact h
  have h1 : j % W < W := Nat.mod_lt _ hW0
  have h2 : j / W < H := Nat.div_lt_of_lt_mul hj
  have h3 : (0 : Int) ≤ ((j / W : Nat) : Int) := Int.natCast_nonneg _
  have h4 : (0 : Int) ≤ ((j % W : Nat) : Int) := Int.natCast_nonneg _
  refine ⟨by (first | lia | omega), by (first | lia | omega), by (first | lia | omega), by (first | lia | omega), ?_⟩
  unfold maskIx
  clear hj e h1 h2
  have e1 : (t + ((j / W : Nat) : Int) - t) = ((j / W : Nat) : Int) := by (first | lia | omega)
  have e2 : (l + ((j % W : Nat) : Int) - l) = ((j % W : Nat) : Int) := by (first | lia | omega)
  rw [e1, e2]
  have : ((j / W : Nat) : Int) * (W : Int) + ((j % W : Nat) : Int) = ((W * (j / W) + j % W : Nat) : Int) := by push_cast; rw [Int.mul_comm]
  rw [this, Int.toNat_natCast, Nat.div_add_mod]
theorem cnt2_len {l t wd ht : Int} {g : Int → Int → Int} : (cnt2 l t wd ht g).length = (wd * ht).toNat := cntL_len _ _
theorem cnt2_get {l t wd ht x y : Int} {g : Int → Int → Int} (h1 : l ≤ x) (h2 : x < l + wd) (h3 : t ≤ y) (h4 : y < t + ht) : (cnt2 l t wd ht g)[maskIx l t wd x y]? = some (.int (g x y)) := by
  unfold cnt2
  rw [cntL_get (maskIx_lt h1 h2 h3 h4).1]
  obtain ⟨e1, e2⟩ := maskIx_at h1 h2 h3 h4
  rw [e1, e2]
theorem cnt2_congr {l t wd ht : Int} {g g' : Int → Int → Int} (hw : 0 ≤ wd) (hh : 0 ≤ ht) (h : ∀ x y, l ≤ x → x < l + wd → t ≤ y → y < t + ht → g x y = g' x y) : cnt2 l t wd ht g = cnt2 l t wd ht g' := by
  unfold cnt2 cntL
  refine List.map_congr_left fun j hj => ?_
  obtain ⟨a, b, d, e, _⟩ := ix_inv (l := l) (t := t) (List.mem_range.mp hj) hw hh
  dsimp only
  rw [h _ _ a b d e]
theorem cnt2_set {l t wd ht x y v : Int} {g : Int → Int → Int} (h1 : l ≤ x) (h2 : x < l + wd) (h3 : t ≤ y) (h4 : y < t + ht) : (cnt2 l t wd ht g).set (maskIx l t wd x y) (.int v) = cnt2 l t wd ht fun x' y' => if x' = x ∧ y' = y then v else g x' y' := by
  unfold cnt2
  rw [cntL_set (maskIx_lt h1 h2 h3 h4).1]
  unfold cntL
  refine List.map_congr_left fun j hj => ?_
  obtain ⟨a, b, d, e, f⟩ := ix_inv (l := l) (t := t) (List.mem_range.mp hj) (by (first | lia | omega)) (by (first | lia | omega))
  obtain ⟨e1, e2⟩ := maskIx_at h1 h2 h3 h4
  by_cases hjm : j = maskIx l t wd x y
  · subst hjm
    dsimp only
    rw [if_pos rfl, if_pos ⟨e1, e2⟩]
  · dsimp only
    rw [if_neg hjm, if_neg fun z => hjm (by rw [← f, z.1, z.2])]
noncomputable def ov (b e x : Int) : Int := max 0 (min e (2 * x + 2) - max b (2 * x))
noncomputable def cover (sp : List (Int × Int)) (x : Int) : Int := (sp.map fun p => ov p.1 p.2 x).sum
section
variable {prog : Program} {w : World} {c : Cx prog w (heapK w.params)} {n : Nat} {σ : Sto} {P : Params}
noncomputable def gAdd (g : Int → Int → Int) (y : Int) (sp : List (Int × Int)) (x' y' : Int) : Int := g x' y' + if y' = y then cover sp x' else 0
theorem upd_same {σ : Sto} {a : Addr} {b : Box} (h : σ a = some b) : σ.upd a b = σ := by
  funext x
  unfold Sto.upd
  by_cases e : x = a
  · rw [if_pos e, e, h]
  · rw [if_neg e]
theorem fdiv2 (a : Int) : a.fdiv 2 = a / 2 := Int.fdiv_eq_ediv_of_nonneg a (by decide)
theorem ov_zero {b e x : Int} (h : e ≤ b) : ov b e x = 0 :=
  Int.max_eq_left (Int.sub_nonpos_of_le (Int.le_trans (Int.min_le_left ..) (Int.le_trans h (Int.le_max_left ..))))
theorem ov_clip {b e l r x : Int} (h1 : l ≤ 2 * x) (h2 : 2 * x + 2 ≤ r) : ov (max b l) (min e r) x = ov b e x := by
  unfold ov
  rw [Int.max_assoc, Int.max_eq_right h1, Int.min_assoc, Int.min_eq_right h2]
theorem ov_end {b e l wd s0 lim col x : Int} (hs : s0 = max b (l * 2)) (hl : lim = min e ((l + wd) * 2)) (h1 : s0 ≤ col) (h2 : col = s0 ∨ col ≤ lim) (h3 : lim ≤ col) (hx : l ≤ x) (hx' : x < l + wd) : ov s0 col x = ov b e x := by
  have k : ov s0 lim x = ov b e x := by rw [hs, hl]; exact ov_clip (by lia) (by lia)
  rw [← k]
  rcases h2 with h | h
  · rw [ov_zero (Int.le_of_eq h), ov_zero (h ▸ h3)]
  · rw [Int.le_antisymm h h3]
noncomputable def clampX (x t : Int) : Int := max (2 * x) (min t (2 * x + 2))
theorem clamp_hi {x t : Int} (h : 2 * x + 2 ≤ t) : clampX x t = 2 * x + 2 := by
  unfold clampX
  rw [Int.min_eq_right h]; exact Int.max_eq_right (by lia)
theorem clamp_lo {x t : Int} (h : t ≤ 2 * x) : clampX x t = 2 * x := Int.max_eq_left (Int.le_trans (Int.min_le_left ..) h)
theorem clamp_id {x t : Int} (h : 2 * x ≤ t) (h' : t ≤ 2 * x + 2) : clampX x t = t := by
  unfold clampX
  rw [Int.min_eq_left h', Int.max_eq_right h]
theorem ov_clamp {b e x : Int} (h : b ≤ e) : ov b e x = clampX x e - clampX x b := by
  unfold ov
  by_cases h1 : 2 * x + 2 ≤ e
  · rw [Int.min_eq_right h1, clamp_hi h1]
    by_cases h2 : 2 * x + 2 ≤ b
    · rw [clamp_hi h2, Int.sub_self]; exact Int.max_eq_left (Int.sub_nonpos_of_le (Int.le_trans h2 (Int.le_max_left ..)))
    · by_cases h3 : b ≤ 2 * x
      · rw [clamp_lo h3, Int.max_eq_right h3]; exact Int.max_eq_right (by lia)
      · rw [clamp_id (by lia) (by lia), Int.max_eq_left (b := 2 * x) (by lia)]; exact Int.max_eq_right (by lia)
  · rw [Int.min_eq_left (by lia)]
    by_cases h3 : e ≤ 2 * x
    · rw [clamp_lo h3, clamp_lo (Int.le_trans h h3), Int.max_eq_right (Int.le_trans h h3), Int.sub_self]; exact Int.max_eq_left (by lia)
    · rw [clamp_id (x := x) (t := e) (by lia) (by lia)]
      by_cases h4 : b ≤ 2 * x
      · rw [clamp_lo h4, Int.max_eq_right h4]; exact Int.max_eq_right (by lia)
      · rw [clamp_id (by lia) (by lia), Int.max_eq_left (b := 2 * x) (by lia)]; exact Int.max_eq_right (by lia)
theorem clamp_step {x x' c d : Int} (h1 : 2 * x ≤ c) (h2 : c ≤ d) (h3 : d ≤ 2 * x + 2) : clampX x' d = clampX x' c + if x' = x then d - c else 0 := by
  by_cases h : x' = x
  · subst h
    rw [if_pos rfl, clamp_id (Int.le_trans h1 h2) h3, clamp_id h1 (Int.le_trans h2 h3)]; lia
  · rw [if_neg h, Int.add_zero]
    by_cases h4 : x' < x
    · rw [clamp_hi (by lia), clamp_hi (by lia)]
    · rw [clamp_lo (by lia), clamp_lo (by lia)]
theorem ov_step {s0 col lim x x' : Int} (h1 : s0 ≤ col) (h2 : col < lim) (hx : x = col / 2) : ov s0 (min ((x + 1) * 2) lim) x' = ov s0 col x' + if x' = x then min ((x + 1) * 2) lim - col else 0 := by
  have a : col ≤ min ((x + 1) * 2) lim := Int.le_min.mpr ⟨by lia, by lia⟩
  have b : min ((x + 1) * 2) lim ≤ 2 * x + 2 := Int.le_trans (Int.min_le_left ..) (by lia)
  rw [ov_clamp (Int.le_trans h1 a), ov_clamp h1, clamp_step (x := x) (by lia) a b]
  lia
theorem ov_same {s0 x : Int} : ov s0 s0 x = 0 := ov_zero (Int.le_refl _)
theorem cover_snoc {sp : List (Int × Int)} {p : Int × Int} {x : Int} : cover (sp ++ [p]) x = cover sp x + ov p.1 p.2 x := by
  unfold cover
  rw [List.map_append, List.sum_append]; simp
theorem gAdd_snoc {g : Int → Int → Int} {y : Int} {sp : List (Int × Int)} {p : Int × Int} {x' y' : Int} : gAdd g y (sp ++ [p]) x' y' = gAdd g y sp x' y' + if y' = y then ov p.1 p.2 x' else 0 := by
  unfold gAdd
  rw [cover_snoc]
  split <;> (first | lia | omega)
theorem d_add {l t wd ht row : Int} {a : Addr} {g : Int → Int → Int} {sp : List (Int × Int)} (ha : σ a = some (.list (cnt2 l t wd ht g))) (h0 : 0 < wd) (hw : wd ≤ 100) (h0' : 0 < ht) (hh : ht ≤ 100) (hl : l.natAbs < 2 ^ 12) (ht' : t.natAbs < 2 ^ 12) (hr : 2 * t ≤ row) (hr' : row < 2 * (t + ht)) :
    Ca c (n + 3) (.ref 259) [maskP l t wd ht a, .int row, .lst (sp.map pairP)] σ fun p σ' => p = .none ∧ σ' = σ.upd a (.list (cnt2 l t wd ht (gAdd g (row / 2) sp))) :=
  Cc.ca <| Cc.fn ["self", "row", "spans"] rfl (argn3 fun _ _ _ => rfl) fun L cells => by
    have hb : wd * ht ≤ 1000000 := by
      have := Int.mul_le_mul hw hh (by (first | lia | omega)) (by decide)
      (first | lia | omega)
    refine Xs.let 3 (.int (row / 2)) (De.is (De.fdiv (De.nm rfl) (De.fld (De.nm rfl) a_Mask_fine) (by decide) (smallDiv (by decide))) (by rw [fdiv2])) ?_
    refine Xs.skip (Dt.is (Dt.not (Dt.cmp2 (De.fld (De.nm rfl) a_Mask_top) (De.nm rfl) (De.add (De.fld (De.nm rfl) a_Mask_top) (De.fld (De.nm rfl) a_Mask_height)))) ?_) ?_
    · simp [cmpI]; (first | lia | omega)
    refine Xs.swap (xs := [Str.ofString "first", Str.ofString "last"]) (De.ev (pv := .tup [.int (l * 2), .int ((l + wd) * 2)]) (De.tp (Ds.cons (De.mul (De.fld (De.nm rfl) a_Mask_left) (De.fld (De.nm rfl) a_Mask_fine) (smallMul (by decide))) (Ds.cons (De.mul (De.add (De.fld (De.nm rfl) a_Mask_left) (De.fld (De.nm rfl) a_Mask_width)) (De.fld (De.nm rfl) a_Mask_fine) (smallMul (by decide))) Ds.nil))) ⟨[.int (l * 2), .int ((l + wd) * 2)], _, rfl, rfl, .cons (i := 5) rfl (.inl rfl) (.cons (i := 4) rfl (.inl rfl) (.nil _)), ?_⟩)
    refine Xs.let 6 (.int ((row / 2 - t) * wd - l)) (De.sub (De.mul (De.sub (De.nm rfl) (De.fld (De.nm rfl) a_Mask_top)) (De.fld (De.nm rfl) a_Mask_width) (smallMul (small100 h0 hw))) (De.fld (De.nm rfl) a_Mask_left)) ?_
    refine Xs.for (It.sq (De.nm rfl) (.inl rfl) (Loop.inv (I := fun k ρ σ' => (Some6 (fun u7 u8 u9 u10 u11 u12 => [some (maskP l t wd ht a), some (.int row), some (.lst (sp.map pairP)), some (.int (row / 2)), some (.int (l * 2)), some (.int ((l + wd) * 2)), some (.int ((row / 2 - t) * wd - l)), u7, u8, u9, u10, u11, u12, none, none]) ρ) ∧ σ' = σ.upd a (.list (cnt2 l t wd ht (gAdd g (row / 2) (sp.take k))))) (fun k p ρ σ' hk hI => ?_) (fun ρ σ' hI => ?_) _ _ ⟨⟨none, none, none, none, none, none, rfl⟩, ?_⟩))
    · obtain ⟨⟨u7, u8, u9, u10, u11, u12, rfl⟩, rfl⟩ := hI
      rw [List.getElem?_map, Option.map_eq_some_iff] at hk
      obtain ⟨⟨b, e⟩, hk, rfl⟩ := hk
      refine ⟨_, As.pr (.cons (As.nm (i := 7)) (.cons (As.nm (i := 8)) (.nil _))) ⟨rfl, rfl, trivial⟩, ?_⟩
      refine Xs.swap (xs := [Str.ofString "column", Str.ofString "limit"]) (De.ev (pv := .tup [.int (max b (l * 2)), .int (min e ((l + wd) * 2))]) (De.tp (Ds.cons (De.bf Boot.max b_max (Ds.cons (De.nm rfl) (Ds.cons (De.nm rfl) Ds.nil)) Dc.max2) (Ds.cons (De.bf Boot.min b_min (Ds.cons (De.nm rfl) (Ds.cons (De.nm rfl) Ds.nil)) Dc.min2) Ds.nil))) ⟨[.int (max b (l * 2)), .int (min e ((l + wd) * 2))], _, rfl, rfl, .cons (i := 10) rfl (.inl rfl) (.cons (i := 9) rfl (.inl rfl) (.nil _)), ?_⟩)
      have htake : sp.take (k + 1) = sp.take k ++ [(b, e)] := by rw [List.take_add_one, hk]; rfl
      rw [htake]
      generalize hs0 : max b (l * 2) = s0
      generalize hlim : min e ((l + wd) * 2) = lim
      refine Xs.while ((lim - s0).toNat + 1) (Wl.inv (fun m ρ σ' => ∃ col : Int, s0 ≤ col ∧ (col = s0 ∨ col ≤ lim) ∧ (lim - col).toNat ≤ m ∧ (Some2 (fun u11 u12 => [some (maskP l t wd ht a), some (.int row), some (.lst (sp.map pairP)), some (.int (row / 2)), some (.int (l * 2)), some (.int ((l + wd) * 2)), some (.int ((row / 2 - t) * wd - l)), some (.int b), some (.int e), some (.int col), some (.int lim), u11, u12, none, none]) ρ) ∧ σ' = σ.upd a (.list (cnt2 l t wd ht fun x' y' => gAdd g (row / 2) (sp.take k) x' y' + if y' = row / 2 then ov s0 col x' else 0))) (fun m ρ σ' hJ => ?_) _ _ _ ⟨s0, by (first | lia | omega), .inl rfl, Nat.le_refl _, ⟨_, _, rfl⟩, ?_⟩)
      · obtain ⟨col, h1, h2, h3, ⟨u11, u12, rfl⟩, rfl⟩ := hJ
        refine ⟨_, Dt.cmp (De.nm rfl) (De.nm rfl), fun hc => ?_, fun hc => ?_⟩
        · have hc : col < lim := by simpa [cmpI] using hc
          have hx1 : l ≤ col / 2 := Int.le_ediv_of_mul_le (by decide) (Int.le_trans (hs0 ▸ Int.le_max_right ..) h1)
          have hx2 : col / 2 < l + wd := Int.ediv_lt_of_lt_mul (by decide) (Int.lt_of_lt_of_le hc (hlim ▸ Int.min_le_right ..))
          have hy1 : t ≤ row / 2 := Int.le_ediv_of_mul_le (by decide) (by rw [Int.mul_comm]; exact hr)
          have hy2 : row / 2 < t + ht := Int.ediv_lt_of_lt_mul (by decide) (by rw [Int.mul_comm]; exact hr')
          obtain ⟨hi, he⟩ := maskIx_lt hx1 hx2 hy1 hy2
          refine ⟨m - 1, by (first | lia | omega), ?_⟩
          refine Xs.let 11 (.int (col / 2)) (De.is (De.fdiv (De.nm rfl) (De.fld (De.nm rfl) a_Mask_fine) (by decide) (smallDiv (by decide))) (by rw [fdiv2])) ?_
          refine Xs.let 12 (.int (min ((col / 2 + 1) * 2) lim)) (De.bf Boot.min b_min (Ds.cons (De.mul (De.add (De.nm rfl) De.num) (De.fld (De.nm rfl) a_Mask_fine) (smallMul (by decide))) (Ds.cons (De.nm rfl) Ds.nil)) Dc.min2) ?_
          refine Xs.cons (Ex.setList (De.ev (De.sub (De.add (De.itemAt (j := maskIx l t wd (col / 2) (row / 2)) (De.fld (De.nm rfl) a_Mask_counts) (De.add (De.nm rfl) (De.nm rfl)) upd_self ?_ ?_ ?_ (cnt2_get hx1 hx2 hy1 hy2)) (De.nm rfl)) (De.nm rfl)) ⟨a, _, maskIx l t wd (col / 2) (row / 2), De.fld (De.nm rfl) a_Mask_counts, De.is (De.add (De.nm rfl) (De.nm rfl)) ?_, upd_self, ?_, ?_, ?_⟩))
          · (first | lia | omega)
          · (first | lia | omega)
          · rw [cnt2_len]; have := seqIndex_nat hi; rw [he] at this; rw [← this]; congr 1; (first | lia | omega)
          · congr 1; (first | lia | omega)
          · rw [cnt2_len]; exact hi
          · rw [cnt2_len]; (first | lia | omega)
          · refine Xs.let 9 (.int (min ((col / 2 + 1) * 2) lim)) (De.nm rfl) (Xs.nil ⟨min ((col / 2 + 1) * 2) lim, by (first | lia | omega), .inr (by (first | lia | omega)), by (first | lia | omega), ⟨_, _, rfl⟩, ?_⟩)
            rw [upd_upd, cnt2_set hx1 hx2 hy1 hy2]
            congr 2
            refine cnt2_congr (Int.le_of_lt h0) (Int.le_of_lt h0') fun x' y' _ _ _ _ => ?_
            rw [ov_step h1 hc rfl]
            by_cases hy : y' = row / 2
            · by_cases hx : x' = col / 2
              · subst hx; subst hy; simp; (first | lia | omega)
              · simp [hx, hy]
            · simp [hy]
        · have hc : lim ≤ col := by simpa [cmpI] using hc
          refine Xs.nil ⟨⟨_, _, _, _, _, _, rfl⟩, ?_⟩
          congr 2
          refine cnt2_congr (Int.le_of_lt h0) (Int.le_of_lt h0') fun x' y' hx hx' _ _ => ?_
          rw [gAdd_snoc, ov_end hs0.symm hlim.symm h1 h2 hc hx hx']
      · congr 2
        refine cnt2_congr (Int.le_of_lt h0) (Int.le_of_lt h0') fun x' y' _ _ _ _ => ?_
        rw [ov_same]; simp
    · obtain ⟨_, rfl⟩ := hI
      rw [List.length_map, List.take_length]
      exact Xs.nil ⟨rfl, rfl⟩
    · rw [List.take_zero]
      have : (fun x y => gAdd g (row / 2) [] x y) = g := by funext x y; unfold gAdd cover; simp
      rw [show gAdd g (row / 2) [] = g from this]
      exact (upd_same ha).symm
end
section
variable {prog : Program} {w : World} {c : Cx prog w (heapK w.params)} {n : Nat} {σ : Sto} {P : Params}
theorem nums_get {a : Int} {m k : Nat} {p : PV} (h : (nums a m)[k]? = some p) : k < m ∧ p = .int (a + (k : Int)) := by
  unfold nums at h
  rw [List.getElem?_map, Option.map_eq_some_iff] at h
  obtain ⟨i, hi, rfl⟩ := h
  obtain ⟨h1, h2⟩ := List.getElem?_eq_some_iff.mp hi
  rw [List.length_range] at h1
  rw [List.getElem_range] at h2
  exact ⟨h1, by rw [h2]⟩
noncomputable def SpanRow (ss : List SideV) (e : Bool) (row : Int) (sp : List (Int × Int)) : Prop := ∃ l' : List (Int × Int), l'.Perm (stepsV ss (row * 2 + 1) 2) ∧ SortedPairs l' ∧ sp = spansV l' (ruleS e)
noncomputable def partG (S : Int → List (Int × Int)) (cur x y : Int) : Int := (if 2 * y < cur then cover (S (2 * y)) x else 0) + (if 2 * y + 1 < cur then cover (S (2 * y + 1)) x else 0)
theorem partG_step {S : Int → List (Int × Int)} {cur x y : Int} {sp : List (Int × Int)} : gAdd (partG S cur) (cur / 2) sp x y = partG (fun r => if r = cur then sp else S r) (cur + 1) x y := by
  unfold gAdd partG
  dsimp only
  by_cases h : y = cur / 2
  · rcases (show cur % 2 = 0 ∨ cur % 2 = 1 by (first | lia | omega)) with h2 | h2
    · have e1 : 2 * y = cur := by (first | lia | omega)
      rw [if_pos h, if_neg (show ¬ 2 * y < cur by (first | lia | omega)), if_neg (show ¬ 2 * y + 1 < cur by (first | lia | omega)), if_pos (show 2 * y < cur + 1 by (first | lia | omega)), if_neg (show ¬ 2 * y + 1 < cur + 1 by (first | lia | omega)), if_pos e1]
      (first | lia | omega)
    · have e1 : 2 * y + 1 = cur := by (first | lia | omega)
      rw [if_pos h, if_pos (show 2 * y < cur by (first | lia | omega)), if_neg (show ¬ 2 * y + 1 < cur by (first | lia | omega)), if_pos (show 2 * y < cur + 1 by (first | lia | omega)), if_pos (show 2 * y + 1 < cur + 1 by (first | lia | omega)), if_neg (show ¬ 2 * y = cur by (first | lia | omega)), if_pos e1]
      (first | lia | omega)
  · rw [if_neg h, if_neg (show ¬ 2 * y = cur by (first | lia | omega)), if_neg (show ¬ 2 * y + 1 = cur by (first | lia | omega))]
    have a1 : (2 * y < cur) = (2 * y < cur + 1) := propext ⟨by (first | lia | omega), by (first | lia | omega)⟩
    have a2 : (2 * y + 1 < cur) = (2 * y + 1 < cur + 1) := propext ⟨by (first | lia | omega), by (first | lia | omega)⟩
    simp only [a1, a2]; (first | lia | omega)
theorem d_mask_of {cs : List (List Pt)} {e : Bool} {l t wd ht : Int} (hc : Conts cs) (hz : (sidesOf cs).length < 64) (ho : ∀ s ∈ sidesOf cs, SideOk s) (h0 : 0 < wd) (hw : wd ≤ 100) (h0' : 0 < ht) (hh : ht ≤ 100) (hl : l.natAbs < 2 ^ 8) (ht' : t.natAbs < 2 ^ 8) :
    Ca c (n + 7) (.ref 294) [contsP cs, .str (ruleS e), .int l, .int t, .int wd, .int ht, .int 2, .int 4] σ fun p σ' => ∃ (a : Addr) (S : Int → List (Int × Int)), σ a = none ∧ p = maskP l t wd ht a ∧ (∀ r, 2 * t ≤ r → r < 2 * (t + ht) → SpanRow (betweenV (sidesOf cs) (t * 4) ((t + ht) * 4)) e r (S r)) ∧ σ' = σ.upd a (.list (cnt2 l t wd ht fun x y => cover (S (2 * y)) x + cover (S (2 * y + 1)) x)) :=
  Cc.ca <| Cc.fn ["contours", "rule", "left", "top", "width", "height", "fine", "grain"] rfl (argn8 fun _ _ _ _ _ _ _ _ => rfl) fun L cells => by
    refine Xs.cons (Ex.assign (i := 8) rfl (Ev.fn f_Mask (Ds.es (Ds.cons (De.nm rfl) (Ds.cons (De.nm rfl) (Ds.cons (De.nm rfl) (Ds.cons (De.nm rfl) (Ds.cons (De.nm rfl) Ds.nil))))) (Ca.mono (d_Mask (Int.le_of_lt h0) (Int.le_of_lt h0') hw hh) fun p σ' hp => ?_))))
    obtain ⟨a, ha, rfl, rfl⟩ := hp
    have hbl : (betweenV (sidesOf cs) (t * 4) ((t + ht) * 4)).length ≤ (sidesOf cs).length := List.length_filter_le _ _
    refine Xs.let 9 (.lst ((betweenV (sidesOf cs) (t * 4) ((t + ht) * 4)).map sideP)) (De.fn f_sides_between (Ds.cons (De.fn f_sides_of (Ds.cons (De.nm rfl) Ds.nil) (d_sides_of hc)) (Ds.cons (De.mul (De.nm rfl) (De.nm rfl) (smallMul (by decide))) (Ds.cons (De.mul (De.add (De.nm rfl) (De.nm rfl)) (De.nm rfl) (smallMul (by decide))) Ds.nil))) (d_sides_between (by (first | lia | omega)))) ?_
    refine Xs.for (It.rg2 b_range (Ds.cons (De.mul (De.nm rfl) (De.nm rfl) (smallMul (by decide))) (Ds.cons (De.mul (De.add (De.nm rfl) (De.nm rfl)) (De.nm rfl) (smallMul (by decide))) Ds.nil)) (by (first | lia | omega)) (by (first | lia | omega)) (Loop.inv (I := fun k ρ σ' => ∃ S : Int → List (Int × Int), (Some1 (fun u => [some (contsP cs), some (.str (ruleS e)), some (.int l), some (.int t), some (.int wd), some (.int ht), some (.int 2), some (.int 4), some (maskP l t wd ht a), some (.lst ((betweenV (sidesOf cs) (t * 4) ((t + ht) * 4)).map sideP)), u, none, none, none, none, none]) ρ) ∧ (∀ r, 2 * t ≤ r → r < 2 * t + k → SpanRow (betweenV (sidesOf cs) (t * 4) ((t + ht) * 4)) e r (S r)) ∧ σ' = σ.upd a (.list (cnt2 l t wd ht (partG S (2 * t + k))))) (fun k p ρ σ' hk hI => ?_) (fun ρ σ' hI => ?_) _ _ ⟨fun _ => [], ⟨none, rfl⟩, fun r h1 h2 => by (first | lia | omega), ?_⟩))
    · obtain ⟨S, ⟨u, rfl⟩, hS, rfl⟩ := hI
      obtain ⟨hk', rfl⟩ := nums_get hk
      refine ⟨_, As.nm (i := 10), ?_⟩
      refine Xs.cons (Ex.expr (Ev.meth (De.nm rfl) m_Mask_add (by decide) (Es.cons (De.ev (De.nm rfl) (Es.cons (Ev.fn f_sample_spans (Ds.es (Ds.cons (De.nm rfl) (Ds.cons (De.nm rfl) (Ds.cons (De.nm rfl) (Ds.cons (De.nm rfl) (Ds.cons (De.nm rfl) Ds.nil))))) (Ca.mono (d_sample_spans (fun s hs => ho s (List.mem_filter.mp hs).1) (by (first | lia | omega)) (by (first | lia | omega))) fun p σ' hp => ?_)))))))) 
      obtain ⟨l', h1, h2, rfl, rfl⟩ := hp
      refine Es.nil (Ca.mono (d_add upd_self h0 hw h0' hh (abs_lt hl) (abs_lt ht') (by (first | lia | omega)) (by (first | lia | omega))) fun p σ' hp => ?_)
      obtain ⟨rfl, rfl⟩ := hp
      refine Xs.nil ⟨fun r => if r = t * 2 + k then spansV l' (ruleS e) else S r, ⟨_, rfl⟩, fun r hr hr' => ?_, ?_⟩
      · dsimp only
        by_cases hrk : r = t * 2 + k
        · rw [if_pos hrk, hrk]
          exact ⟨l', h1, h2, rfl⟩
        · rw [if_neg hrk]
          exact hS r hr (by (first | lia | omega))
      · rw [upd_upd]
        congr 2
        refine cnt2_congr (Int.le_of_lt h0) (Int.le_of_lt h0') fun x y _ _ _ _ => ?_
        have e1 : t * 2 + (k : Int) = 2 * t + k := by (first | lia | omega)
        rw [e1, partG_step]
        congr 1
        (first | lia | omega)
    · obtain ⟨S, ⟨u, rfl⟩, hS, rfl⟩ := hI
      have hlen : ((nums (t * 2) ((t + ht) * 2 - t * 2).toNat).length : Int) = 2 * ht := by rw [nums_length]; (first | lia | omega)
      refine Xs.give (maskP l t wd ht a) (De.nm rfl) ⟨a, S, ha, rfl, fun r h1 h2 => hS r h1 (by (first | lia | omega)), ?_⟩
      congr 2
      refine cnt2_congr (Int.le_of_lt h0) (Int.le_of_lt h0') fun x y _ _ hy hy' => ?_
      unfold partG
      rw [if_pos (by (first | lia | omega)), if_pos (by (first | lia | omega))]
    · congr 2
      unfold cnt2
      unfold cntL
      refine List.map_congr_left fun j hj => ?_
      obtain ⟨_, _, h3, h4, _⟩ := ix_inv (l := l) (t := t) (List.mem_range.mp hj) (Int.le_of_lt h0) (Int.le_of_lt h0')
      unfold partG
      dsimp only
      rw [if_neg (by (first | lia | omega)), if_neg (by (first | lia | omega))]
      rfl
end
noncomputable def rowsAt (σ : Sto) (rows : List Addr) (f : Nat → List PV) : Sto := fun x => if x ∈ rows then some (.list (f (rows.idxOf x))) else σ x
theorem rowsAt_nil {σ : Sto} {f : Nat → List PV} : rowsAt σ [] f = σ := by funext x; unfold rowsAt; rw [if_neg (by simp)]
theorem rowsAt_snoc {σ : Sto} {rows : List Addr} {a : Addr} {f : Nat → List PV} (h : a ∉ rows) : rowsAt σ (rows ++ [a]) f = (rowsAt σ rows f).upd a (.list (f rows.length)) := by
  funext x
  unfold rowsAt Sto.upd
  by_cases hx : x = a
  · subst hx
    rw [if_pos (by simp), if_pos rfl, List.idxOf_append, if_neg h]
    simp
  · rw [if_neg hx]
    dsimp only
    by_cases hr : x ∈ rows
    · rw [if_pos (by simp [hr]), if_pos hr, List.idxOf_append, if_pos hr]
    · rw [if_neg (by simp [hr, hx]), if_neg hr]
theorem idxOf_nd {rows : List Addr} (hn : rows.Nodup) {j : Nat} {r : Addr} (h : rows[j]? = some r) : rows.idxOf r = j := by
  obtain ⟨h1, h2⟩ := List.getElem?_eq_some_iff.mp h
  subst h2
  exact hn.idxOf_getElem j h1
theorem rowsAt_get {σ : Sto} {rows : List Addr} {f : Nat → List PV} (hn : rows.Nodup) {j : Nat} {r : Addr} (h : rows[j]? = some r) : rowsAt σ rows f r = some (.list (f j)) := by
  unfold rowsAt
  rw [if_pos (List.mem_of_getElem? h), idxOf_nd hn h]
theorem rowsAt_not {σ : Sto} {rows : List Addr} {f : Nat → List PV} {x : Addr} (h : x ∉ rows) : rowsAt σ rows f x = σ x := if_neg h
theorem rowsAt_none {σ : Sto} {rows : List Addr} {f : Nat → List PV} {x : Addr} (h : rowsAt σ rows f x = none) : x ∉ rows ∧ σ x = none := by
  unfold rowsAt at h
  split at h
  · cases h
  · rename_i hx; exact ⟨hx, h⟩
theorem rowsAt_set {σ : Sto} {rows : List Addr} {f : Nat → List PV} (hn : rows.Nodup) {j : Nat} {r : Addr} {v : List PV} (h : rows[j]? = some r) : (rowsAt σ rows f).upd r (.list v) = rowsAt σ rows fun k => if k = j then v else f k := by
  funext x
  unfold rowsAt Sto.upd
  have hj := idxOf_nd hn h
  by_cases hx : x = r
  · subst hx
    rw [if_pos rfl, if_pos (List.mem_of_getElem? h)]
    dsimp only
    rw [if_pos hj]
  · rw [if_neg hx]
    dsimp only
    by_cases hr : x ∈ rows
    · rw [if_pos hr, if_pos hr]
      rw [if_neg]
      intro e
      have h1 : rows[rows.idxOf x]? = some x := by
        rw [List.getElem?_eq_getElem (List.idxOf_lt_length_of_mem hr), List.getElem_idxOf]
      rw [e, h] at h1
      exact hx (Option.some.inj h1).symm
    · rw [if_neg hr, if_neg hr]
theorem rowsAt_upd {σ : Sto} {rows : List Addr} {f : Nat → List PV} {d : Addr} {b : Box} (h : d ∉ rows) : (rowsAt σ rows f).upd d b = rowsAt (σ.upd d b) rows f := by
  funext x
  unfold rowsAt Sto.upd
  by_cases hx : x = d
  · subst hx
    rw [if_pos rfl, if_neg h, if_pos rfl]
  · rw [if_neg hx, if_neg hx]
theorem rowsAt_congr {σ : Sto} {rows : List Addr} {f g : Nat → List PV} (h : ∀ j, j < rows.length → f j = g j) : rowsAt σ rows f = rowsAt σ rows g := by
  funext x
  unfold rowsAt
  by_cases hr : x ∈ rows
  · rw [if_pos hr, if_pos hr, h _ (List.idxOf_lt_length_of_mem hr)]
  · rw [if_neg hr, if_neg hr]
noncomputable def gridL (l wd : Int) (g : Int → Int → PV) (y : Int) : List PV := (List.range wd.toNat).map fun (i : Nat) => g (l + (i : Int)) y
noncomputable def gridS (σ : Sto) (l t wd : Int) (rows : List Addr) (g : Int → Int → PV) : Sto := rowsAt σ rows fun j => gridL l wd g (t + (j : Int))
theorem gridL_len {l wd y : Int} {g : Int → Int → PV} : (gridL l wd g y).length = wd.toNat := by unfold gridL; simp
theorem gridL_get {l wd y x : Int} {g : Int → Int → PV} (h1 : l ≤ x) (h2 : x < l + wd) : (gridL l wd g y)[(x - l).toNat]? = some (g x y) := by
  unfold gridL
  have : (x - l).toNat < wd.toNat := by (first | lia | omega)
  rw [List.getElem?_map, List.getElem?_range this]
  simp only [Option.map_some]
  have e : l + ((x - l).toNat : Int) = x := by (first | lia | omega)
  rw [e]
theorem gridL_congr {l wd y : Int} {g g' : Int → Int → PV} (h : ∀ x, l ≤ x → x < l + wd → g x y = g' x y) : gridL l wd g y = gridL l wd g' y := by
  unfold gridL
  refine List.map_congr_left fun i hi => ?_
  rw [List.mem_range] at hi
  exact h _ (by (first | lia | omega)) (by (first | lia | omega))
theorem gridL_set {l wd y x : Int} {g : Int → Int → PV} {v : PV} (h1 : l ≤ x) (h2 : x < l + wd) : (gridL l wd g y).set (x - l).toNat v = gridL l wd (fun x' y' => if x' = x ∧ y' = y then v else g x' y') y := by
  unfold gridL
  apply List.ext_getElem?
  intro i
  rw [List.getElem?_set]
  by_cases hi : i < wd.toNat
  · rw [List.getElem?_map, List.getElem?_map, List.getElem?_range hi]
    simp only [Option.map_some, List.length_map, List.length_range, and_true]
    by_cases e : (x - l).toNat = i
    · rw [if_pos e, if_pos (by (first | lia | omega)), if_pos (by (first | lia | omega))]
    · rw [if_neg e, if_neg (by (first | lia | omega))]
  · have hn : ¬ (x - l).toNat = i := by (first | lia | omega)
    rw [if_neg hn]
    simp [hi]
theorem gridS_congr {σ : Sto} {l t wd ht : Int} {rows : List Addr} {g g' : Int → Int → PV} (hr : rows.length = ht.toNat) (h : ∀ x y, l ≤ x → x < l + wd → t ≤ y → y < t + ht → g x y = g' x y) : gridS σ l t wd rows g = gridS σ l t wd rows g' :=
  rowsAt_congr fun j hj => gridL_congr fun x h1 h2 => h x _ h1 h2 (by (first | lia | omega)) (by (first | lia | omega))
noncomputable def GridIn (σ : Sto) (l t wd ht : Int) (rows : List Addr) (g : Int → Int → PV) : Prop := ∀ y, t ≤ y → y < t + ht → ∃ r, rows[(y - t).toNat]? = some r ∧ σ r = some (.list (gridL l wd g y))
theorem gridS_in {σ : Sto} {l t wd ht : Int} {rows : List Addr} {g : Int → Int → PV} (hr : rows.length = ht.toNat) (hn : rows.Nodup) : GridIn (gridS σ l t wd rows g) l t wd ht rows g := fun y h1 h2 => by
  have hj : (y - t).toNat < rows.length := by (first | lia | omega)
  refine ⟨rows[(y - t).toNat], List.getElem?_eq_getElem hj, ?_⟩
  unfold gridS
  rw [rowsAt_get hn (List.getElem?_eq_getElem hj)]
  have e : t + ((y - t).toNat : Int) = y := by (first | lia | omega)
  rw [e]
theorem gridS_set {σ : Sto} {l t wd ht x y : Int} {rows : List Addr} {g : Int → Int → PV} {v : PV} {r : Addr} (hr : rows.length = ht.toNat) (hn : rows.Nodup) (h : rows[(y - t).toNat]? = some r) (h1 : l ≤ x) (h2 : x < l + wd) (h3 : t ≤ y) (h4 : y < t + ht) :
    (gridS σ l t wd rows g).upd r (.list ((gridL l wd g y).set (x - l).toNat v)) = gridS σ l t wd rows fun x' y' => if x' = x ∧ y' = y then v else g x' y' := by
  unfold gridS
  rw [rowsAt_set hn h]
  refine rowsAt_congr fun j hj => ?_
  by_cases e : j = (y - t).toNat
  · rw [if_pos e, gridL_set h1 h2]
    have e' : t + (j : Int) = y := by (first | lia | omega)
    rw [e']
  · rw [if_neg e]
    refine gridL_congr fun x' _ _ => ?_
    rw [if_neg (by (first | lia | omega))]
section
variable {prog : Program} {w : World} {c : Cx prog w (heapK w.params)} {n : Nat} {σ : Sto} {P : Params}
theorem a_Canvas_width : AttrOk (heapK P) 401 "width" := ⟨rfl, rfl, _, rfl, rfl⟩
theorem s_Canvas_width : SetOk (heapK P) 401 "width" := ⟨rfl, rfl, rfl, rfl⟩
theorem a_Canvas_height : AttrOk (heapK P) 401 "height" := ⟨rfl, rfl, _, rfl, rfl⟩
theorem s_Canvas_height : SetOk (heapK P) 401 "height" := ⟨rfl, rfl, rfl, rfl⟩
theorem a_Canvas_left : AttrOk (heapK P) 401 "left" := ⟨rfl, rfl, _, rfl, rfl⟩
theorem s_Canvas_left : SetOk (heapK P) 401 "left" := ⟨rfl, rfl, rfl, rfl⟩
theorem a_Canvas_top : AttrOk (heapK P) 401 "top" := ⟨rfl, rfl, _, rfl, rfl⟩
theorem s_Canvas_top : SetOk (heapK P) 401 "top" := ⟨rfl, rfl, rfl, rfl⟩
theorem a_Canvas_cells : AttrOk (heapK P) 401 "cells" := ⟨rfl, rfl, _, rfl, rfl⟩
theorem s_Canvas_cells : SetOk (heapK P) 401 "cells" := ⟨rfl, rfl, rfl, rfl⟩
theorem m_Canvas_holds : MethOk (heapK P) 401 "holds" 355 := ⟨rfl, rfl, rfl, rfl⟩
theorem m_Canvas_get : MethOk (heapK P) 401 "get" 362 := ⟨rfl, rfl, rfl, rfl⟩
theorem m_Canvas_put : MethOk (heapK P) 401 "put" 369 := ⟨rfl, rfl, rfl, rfl⟩
theorem m_Canvas_places : MethOk (heapK P) 401 "places" 384 := ⟨rfl, rfl, rfl, rfl⟩
theorem a_AlphaMap_left : AttrOk (heapK P) 441 "left" := ⟨rfl, rfl, _, rfl, rfl⟩
theorem s_AlphaMap_left : SetOk (heapK P) 441 "left" := ⟨rfl, rfl, rfl, rfl⟩
theorem a_AlphaMap_top : AttrOk (heapK P) 441 "top" := ⟨rfl, rfl, _, rfl, rfl⟩
theorem s_AlphaMap_top : SetOk (heapK P) 441 "top" := ⟨rfl, rfl, rfl, rfl⟩
theorem a_AlphaMap_width : AttrOk (heapK P) 441 "width" := ⟨rfl, rfl, _, rfl, rfl⟩
theorem s_AlphaMap_width : SetOk (heapK P) 441 "width" := ⟨rfl, rfl, rfl, rfl⟩
theorem a_AlphaMap_height : AttrOk (heapK P) 441 "height" := ⟨rfl, rfl, _, rfl, rfl⟩
theorem s_AlphaMap_height : SetOk (heapK P) 441 "height" := ⟨rfl, rfl, rfl, rfl⟩
theorem a_AlphaMap_alphas : AttrOk (heapK P) 441 "alphas" := ⟨rfl, rfl, _, rfl, rfl⟩
theorem s_AlphaMap_alphas : SetOk (heapK P) 441 "alphas" := ⟨rfl, rfl, rfl, rfl⟩
theorem m_AlphaMap_is_in : MethOk (heapK P) 441 "is_in" 424 := ⟨rfl, rfl, rfl, rfl⟩
theorem m_AlphaMap_alpha : MethOk (heapK P) 441 "alpha" 431 := ⟨rfl, rfl, rfl, rfl⟩
theorem m_AlphaMap_put : MethOk (heapK P) 441 "put" 438 := ⟨rfl, rfl, rfl, rfl⟩
theorem a_Flat_colour : AttrOk (heapK P) 469 "colour" := ⟨rfl, rfl, _, rfl, rfl⟩
theorem s_Flat_colour : SetOk (heapK P) 469 "colour" := ⟨rfl, rfl, rfl, rfl⟩
theorem m_Flat_colour_at : MethOk (heapK P) 469 "colour_at" 466 := ⟨rfl, rfl, rfl, rfl⟩
end
section
variable {prog : Program} {w : World} {c : Cx prog w (heapK w.params)} {n : Nat} {σ : Sto} {P : Params}
noncomputable def canvN : List Str := ["width", "height", "left", "top", "cells"]
noncomputable def canvP (l t wd ht : Int) (rows : List Addr) : PV := .obj 401 canvN [.int wd, .int ht, .int l, .int t, .lst (rows.map .at)]
noncomputable def amapN : List Str := ["left", "top", "width", "height", "alphas"]
noncomputable def amapP (l t wd ht : Int) (rows : List Addr) : PV := .obj 441 amapN [.int l, .int t, .int wd, .int ht, .lst (rows.map .at)]
theorem d_holds {l t wd ht x y : Int} {rows : List Addr} : Dc c (n + 1) (.ref 355) [canvP l t wd ht rows, .int x, .int y] σ (.bool (decide (l ≤ x ∧ x < l + wd ∧ t ≤ y ∧ y < t + ht))) :=
  Cc.ca <| Cc.fn ["self", "x", "y"] rfl (argn3 fun _ _ _ => rfl) fun L cells => by
    refine Xs.give _ (De.is (De.and2 (De.cmp2 De.num (De.sub (De.nm rfl) (De.fld (De.nm rfl) a_Canvas_left)) (De.fld (De.nm rfl) a_Canvas_width)) fun _ => De.cmp2 De.num (De.sub (De.nm rfl) (De.fld (De.nm rfl) a_Canvas_top)) (De.fld (De.nm rfl) a_Canvas_height)) ?_) ⟨rfl, rfl⟩
    congr 1
    rw [Bool.eq_iff_iff]
    simp [cmpI]; (first | lia | omega)
theorem d_is_in {l t wd ht x y : Int} {rows : List Addr} : Dc c (n + 1) (.ref 424) [amapP l t wd ht rows, .int x, .int y] σ (.bool (decide (l ≤ x ∧ x < l + wd ∧ t ≤ y ∧ y < t + ht))) :=
  Cc.ca <| Cc.fn ["self", "x", "y"] rfl (argn3 fun _ _ _ => rfl) fun L cells => by
    refine Xs.give _ (De.is (De.and2 (De.cmp2 De.num (De.sub (De.nm rfl) (De.fld (De.nm rfl) a_AlphaMap_left)) (De.fld (De.nm rfl) a_AlphaMap_width)) fun _ => De.cmp2 De.num (De.sub (De.nm rfl) (De.fld (De.nm rfl) a_AlphaMap_top)) (De.fld (De.nm rfl) a_AlphaMap_height)) ?_) ⟨rfl, rfl⟩
    congr 1
    rw [Bool.eq_iff_iff]
    simp [cmpI]; (first | lia | omega)
theorem rows_get {rows : List Addr} {j : Nat} {r : Addr} (h : rows[j]? = some r) : (rows.map PV.at)[j]? = some (.at r) := by rw [List.getElem?_map, h]; rfl
theorem off_ix {a b : Int} {m : Nat} (h1 : b ≤ a) (h2 : (a - b).toNat < m) : seqIndex? (a - b) m = some (a - b).toNat := by
  have := seqIndex_nat h2
  rw [Int.toNat_of_nonneg (by (first | lia | omega))] at this
  exact this
theorem d_get {l t wd ht x y : Int} {rows : List Addr} {g : Int → Int → PV} (hg : GridIn σ l t wd ht rows g) (h1 : l ≤ x) (h2 : x < l + wd) (h3 : t ≤ y) (h4 : y < t + ht) (hw : wd ≤ 1000000) (hh : ht ≤ 1000000) : Dc c (n + 2) (.ref 362) [canvP l t wd ht rows, .int x, .int y] σ (g x y) :=
  Cc.ca <| Cc.fn ["self", "x", "y"] rfl (argn3 fun _ _ _ => rfl) fun L cells => by
    obtain ⟨r, hr, hs⟩ := hg y h3 h4
    have hj : (y - t).toNat < rows.length := (List.getElem?_eq_some_iff.mp hr).1
    refine Xs.give _ (De.is (De.ifexp (q := .none) (Dt.val (De.meth (De.nm rfl) m_Canvas_holds (by decide) (Ds.cons (De.nm rfl) (Ds.cons (De.nm rfl) Ds.nil)) d_holds)) (fun _ => De.itemAt (De.itemL (j := (y - t).toNat) (De.fld (De.nm rfl) a_Canvas_cells) (De.sub (De.nm rfl) (De.fld (De.nm rfl) a_Canvas_top)) (by (first | lia | omega)) (by (first | lia | omega)) ?_ (rows_get hr)) (De.sub (De.nm rfl) (De.fld (De.nm rfl) a_Canvas_left)) hs (by (first | lia | omega)) (by (first | lia | omega)) ?_ (gridL_get h1 h2)) fun h => ?_) ?_) ⟨rfl, rfl⟩
    · rw [List.length_map]; exact off_ix h3 hj
    · rw [gridL_len]; exact off_ix h1 (by (first | lia | omega))
    · rw [decide_eq_false_iff_not] at h
      exact absurd ⟨h1, h2, h3, h4⟩ h
    · rw [if_pos (decide_eq_true ⟨h1, h2, h3, h4⟩)]
theorem d_put {l t wd ht x y : Int} {rows : List Addr} {g : Int → Int → PV} {v : PV} (hr : rows.length = ht.toNat) (hn : rows.Nodup) (h1 : l ≤ x) (h2 : x < l + wd) (h3 : t ≤ y) (h4 : y < t + ht) (hw : wd ≤ 1000000) (hh : ht ≤ 1000000) :
    Ca c (n + 2) (.ref 369) [canvP l t wd ht rows, .int x, .int y, v] (gridS σ l t wd rows g) fun p σ' => p = .none ∧ σ' = gridS σ l t wd rows fun x' y' => if x' = x ∧ y' = y then v else g x' y' :=
  Cc.ca <| Cc.fn ["self", "x", "y", "colour"] rfl (argn4 fun _ _ _ _ => rfl) fun L cells => by
    obtain ⟨r, hrr, hs⟩ := gridS_in (σ := σ) (l := l) (wd := wd) (g := g) hr hn y h3 h4
    have hj : (y - t).toNat < rows.length := (List.getElem?_eq_some_iff.mp hrr).1
    refine Xs.skip (Dt.is (Dt.not (Dt.val (De.meth (De.nm rfl) m_Canvas_holds (by decide) (Ds.cons (De.nm rfl) (Ds.cons (De.nm rfl) Ds.nil)) d_holds))) ?_) ?_
    · rw [decide_eq_true ⟨h1, h2, h3, h4⟩]; rfl
    refine Xs.cons (Ex.setList (De.ev (De.nm rfl) ⟨r, _, (x - l).toNat, De.itemL (j := (y - t).toNat) (De.fld (De.nm rfl) a_Canvas_cells) (De.sub (De.nm rfl) (De.fld (De.nm rfl) a_Canvas_top)) (by (first | lia | omega)) (by (first | lia | omega)) ?_ (rows_get hrr), De.is (De.sub (De.nm rfl) (De.fld (De.nm rfl) a_Canvas_left)) ?_, hs, ?_, ?_, ?_⟩))
    · rw [List.length_map]; exact off_ix h3 hj
    · congr 1; (first | lia | omega)
    · rw [gridL_len]; (first | lia | omega)
    · rw [gridL_len]; (first | lia | omega)
    · exact Xs.nil ⟨rfl, gridS_set hr hn hrr h1 h2 h3 h4⟩
theorem d_amap_alpha {l t wd ht x y : Int} {rows : List Addr} {g : Int → Int → Int} (hg : GridIn σ l t wd ht rows fun x y => .int (g x y)) (hw : wd ≤ 1000000) (hh : ht ≤ 1000000) : Dc c (n + 2) (.ref 431) [amapP l t wd ht rows, .int x, .int y] σ (.int (if l ≤ x ∧ x < l + wd ∧ t ≤ y ∧ y < t + ht then g x y else 0)) :=
  Cc.ca <| Cc.fn ["self", "x", "y"] rfl (argn3 fun _ _ _ => rfl) fun L cells => by
    by_cases hb : l ≤ x ∧ x < l + wd ∧ t ≤ y ∧ y < t + ht
    · obtain ⟨h1, h2, h3, h4⟩ := hb
      obtain ⟨r, hr, hs⟩ := hg y h3 h4
      have hj : (y - t).toNat < rows.length := (List.getElem?_eq_some_iff.mp hr).1
      refine Xs.give _ (De.is (De.ifexp (Dt.val (De.meth (De.nm rfl) m_AlphaMap_is_in (by decide) (Ds.cons (De.nm rfl) (Ds.cons (De.nm rfl) Ds.nil)) d_is_in)) (fun _ => De.itemAt (De.itemL (j := (y - t).toNat) (De.fld (De.nm rfl) a_AlphaMap_alphas) (De.sub (De.nm rfl) (De.fld (De.nm rfl) a_AlphaMap_top)) (by (first | lia | omega)) (by (first | lia | omega)) ?_ (rows_get hr)) (De.sub (De.nm rfl) (De.fld (De.nm rfl) a_AlphaMap_left)) hs (by (first | lia | omega)) (by (first | lia | omega)) ?_ (gridL_get h1 h2)) fun h => De.num) ?_) ⟨rfl, rfl⟩
      · rw [List.length_map]; exact off_ix h3 hj
      · rw [gridL_len]; exact off_ix h1 (by (first | lia | omega))
      · rw [if_pos (decide_eq_true ⟨h1, h2, h3, h4⟩), if_pos ⟨h1, h2, h3, h4⟩]
    · refine Xs.give _ (De.is (De.ifexp (p := .none) (Dt.val (De.meth (De.nm rfl) m_AlphaMap_is_in (by decide) (Ds.cons (De.nm rfl) (Ds.cons (De.nm rfl) Ds.nil)) d_is_in)) (fun h => absurd (of_decide_eq_true h) hb) fun h => De.num) ?_) ⟨rfl, rfl⟩
      · rw [if_neg (by simpa using hb), if_neg hb]
theorem d_amap_put {l t wd ht x y v : Int} {rows : List Addr} {g : Int → Int → Int} (hr : rows.length = ht.toNat) (hn : rows.Nodup) (h1 : l ≤ x) (h2 : x < l + wd) (h3 : t ≤ y) (h4 : y < t + ht) (hw : wd ≤ 1000000) (hh : ht ≤ 1000000) (hv : 0 ≤ v) (hv' : v ≤ 255) :
    Ca c (n + 2) (.ref 438) [amapP l t wd ht rows, .int x, .int y, .int v] (gridS σ l t wd rows fun x y => .int (g x y)) fun p σ' => p = .none ∧ σ' = gridS σ l t wd rows fun x' y' => .int (if x' = x ∧ y' = y then v else g x' y') :=
  Cc.ca <| Cc.fn ["self", "x", "y", "alpha"] rfl (argn4 fun _ _ _ _ => rfl) fun L cells => by
    obtain ⟨r, hrr, hs⟩ := gridS_in (σ := σ) (l := l) (wd := wd) (g := fun x y => .int (g x y)) hr hn y h3 h4
    have hj : (y - t).toNat < rows.length := (List.getElem?_eq_some_iff.mp hrr).1
    refine Xs.skip (Dt.is (Dt.or2 (Dt.not (Dt.val (De.meth (De.nm rfl) m_AlphaMap_is_in (by decide) (Ds.cons (De.nm rfl) (Ds.cons (De.nm rfl) Ds.nil)) d_is_in))) fun _ => Dt.not (Dt.cmp2 De.num (De.nm rfl) (De.gn rfl g_FULL_clips))) ?_) ?_
    · rw [decide_eq_true ⟨h1, h2, h3, h4⟩]; simp [cmpI]; (first | lia | omega)
    refine Xs.cons (Ex.setList (De.ev (De.nm rfl) ⟨r, _, (x - l).toNat, De.itemL (j := (y - t).toNat) (De.fld (De.nm rfl) a_AlphaMap_alphas) (De.sub (De.nm rfl) (De.fld (De.nm rfl) a_AlphaMap_top)) (by (first | lia | omega)) (by (first | lia | omega)) ?_ (rows_get hrr), De.is (De.sub (De.nm rfl) (De.fld (De.nm rfl) a_AlphaMap_left)) ?_, hs, ?_, ?_, ?_⟩))
    · rw [List.length_map]; exact off_ix h3 hj
    · congr 1; (first | lia | omega)
    · rw [gridL_len]; (first | lia | omega)
    · rw [gridL_len]; (first | lia | omega)
    · refine Xs.nil ⟨rfl, ?_⟩
      rw [gridS_set hr hn hrr h1 h2 h3 h4]
      congr 1
      funext x' y'
      split <;> rfl
noncomputable def flatP (a : Col) : PV := .obj 469 ["colour"] [colP a]
theorem d_Flat {a : Col} : Dc c (n + 2) (.ref 469) [colP a] σ (flatP a) :=
  Dc.make (fI := 459) rfl rfl rfl fun d hd => Cc.fn ["self", "colour"] rfl (argn2 fun _ _ => rfl) fun L cells => by
    refine Xs.setA (colP a) s_Flat_colour (De.nm rfl) (De.nm rfl) ?_
    exact Xs.nil ⟨rfl, rfl⟩
theorem d_colour_at {a : Col} {x y : Int} : Dc c (n + 1) (.ref 466) [flatP a, .int x, .int y] σ (colP a) :=
  Cc.ca <| Cc.fn ["self", "x", "y"] rfl (argn3 fun _ _ _ => rfl) fun L cells =>
    Xs.give _ (De.fld (De.nm rfl) a_Flat_colour) ⟨rfl, rfl⟩
end
section
variable {prog : Program} {w : World} {c : Cx prog w (heapK w.params)} {n : Nat} {σ : Sto} {P : Params}
theorem r_NOTHING : Rep prog w c.G (fun _ => False) (colP (0, 0, 0, 0)) (.ref 335) := by
  simp only [colP, Rep]
  exact ⟨335, _, rfl, fun z => z, ⟨_, c.X 335 _ rfl, rfl, _, rfl⟩, Reps.cons Rep.int (Reps.cons Rep.int (Reps.cons Rep.int (Reps.cons Rep.int Reps.nil)))⟩
theorem args5 {h : Heap} {bad : Addr → Prop} {p1 p2 p3 p4 p5 : PV} {vs : List Value} (r : Reps prog w h bad [p1, p2, p3, p4, p5] vs) : ∃ a1 a2 a3 a4 a5, vs = [a1, a2, a3, a4, a5] := by
  simp only [Reps] at r
  obtain ⟨a1, _, rfl, _, a2, _, rfl, _, a3, _, rfl, _, a4, _, rfl, _, a5, _, rfl, _, rfl⟩ := r
  exact ⟨a1, a2, a3, a4, a5, rfl⟩
theorem gridL_const {l wd y : Int} {v : PV} : List.replicate wd.toNat v = gridL l wd (fun _ _ => v) y := by
  unfold gridL
  exact List.ext_getElem (by simp) (by intros; simp)
theorem drop_rows {σ : Sto} {rows : List Addr} {f : Nat → List PV} {d : Addr} {b b' : Box} (h : ∀ r ∈ rows, (σ.upd d b) r = none) (hd : σ d = none) : ((rowsAt (σ.upd d b) rows f).upd d b').drop d = rowsAt σ rows f := by
  have hdr : d ∉ rows := fun hm => by have := h d hm; rw [upd_self] at this; cases this
  rw [rowsAt_upd hdr, upd_upd, ← rowsAt_upd hdr]
  exact drop_upd (by rw [rowsAt_not hdr]; exact hd)
inductive GridPost (σ : Sto) (f : List Addr → PV) (l t wd ht : Int) (v : PV) (p : PV) (σ' : Sto) : Prop
  | mk (rows : List Addr) (e : p = f rows) (h : rows.length = ht.toNat) (nd : rows.Nodup) (hf : ∀ r ∈ rows, σ r = none) (e' : σ' = gridS σ l t wd rows fun _ _ => v)
theorem d_Canvas {l t wd ht : Int} (h0 : 0 < wd) (hw : wd ≤ 1000) (h0' : 0 < ht) (hh : ht ≤ 1000) :
    Ca c (n + 2) (.ref 401) [.int wd, .int ht, .int l, .int t] σ (GridPost σ (canvP l t wd ht) l t wd ht (colP (0, 0, 0, 0))) :=
  Ca.make (fI := 348) rfl rfl rfl fun d hd => Cc.def (l := [.self 401 d, .int wd, .int ht, .int l, .int t]) (xs := [Str.ofString "self", Str.ofString "width", Str.ofString "height", Str.ofString "left", Str.ofString "top"]) rfl rfl rfl rfl (by decide) rfl
    (fun s bad vs hg r => by
      obtain ⟨a1, a2, a3, a4, a5, rfl⟩ := args5 r
      exact ⟨[a1, a2, a3, a4, a5], BindsTo.of_defaults rfl (hg _ _ (c.X 343 _ rfl)) rfl rfl rfl, r⟩) rfl rfl rfl fun L cells => by
    refine Xs.skip (Dt.is (Dt.or2 (Dt.cmp (De.nm rfl) De.num) fun _ => Dt.cmp (De.nm rfl) De.num) ?_) ?_
    · simp [cmpI]; omega
    refine Xs.setA (.int wd) s_Canvas_width (De.nm rfl) (De.nm rfl) ?_
    refine Xs.setA (.int ht) s_Canvas_height (De.nm rfl) (De.nm rfl) ?_
    refine Xs.setA (.int l) s_Canvas_left (De.nm rfl) (De.nm rfl) ?_
    refine Xs.setA (.int t) s_Canvas_top (De.nm rfl) (De.nm rfl) ?_
    refine Xs.setE (d := d) (ns := ["width", "height", "left", "top"]) (l := [.int wd, .int ht, .int l, .int t]) s_Canvas_cells (Ev.comp [none, none, none, some 1] (It.rg1 b_range (Ds.es (Ds.cons (De.nm rfl) Ds.nil) ⟨rfl, fun C cl => ?_⟩) (by omega)))
    refine CL.inv (tgt := fun p ρ => ρ.set 1 (some p)) (fun k acc σ' => ∃ rows, acc = rows.map .at ∧ rows.length = k ∧ rows.Nodup ∧ (∀ r ∈ rows, (σ.upd d (.flds ["width", "height", "left", "top"] [.int wd, .int ht, .int l, .int t])) r = none) ∧ σ' = rowsAt (σ.upd d (.flds ["width", "height", "left", "top"] [.int wd, .int ht, .int l, .int t])) rows fun _ => List.replicate wd.toNat (colP (0, 0, 0, 0))) _ (fun p ρ _ => As.name (i := 1) rfl (.inl rfl)) (fun p q ρ _ _ => List.set_set ..) (fun k p acc σ' hk hI => ?_) (fun acc ρ σ' hI => ?_) _ _ ⟨[], rfl, rfl, List.nodup_nil, (fun r hr => nomatch hr), rowsAt_nil.symm⟩
    · obtain ⟨rows, rfl, rfl, hn, hf, rfl⟩ := hI
      have hk' := (nums_get hk).1
      refine ⟨true, rfl, fun _ => ⟨by rw [List.length_map]; omega, Ev.mulAt (De.ls (Ds.cons (De.glob (i := 2) rfl (show nsIn _ mainGlobals "NOTHING" = some (some (.ref 335)) from rfl) r_NOTHING) Ds.nil)) (De.nm rfl) (by omega) (by omega) fun a ha => ?_⟩, fun h => by cases h⟩
      obtain ⟨ha1, ha2⟩ := rowsAt_none ha
      refine ⟨rows ++ [a], by simp, by simp, ?_, ?_, (rowsAt_snoc ha1).symm⟩
      · rw [List.nodup_append]
        exact ⟨hn, by simp, fun x hx y hy e => by simp at hy; subst hy; subst e; exact ha1 hx⟩
      · intro r hr
        rcases List.mem_append.mp hr with h | h
        · exact hf r h
        · simp at h; subst h; exact ha2
    · obtain ⟨rows, rfl, hl, hn, hf, rfl⟩ := hI
      rw [nums_length] at hl
      have hdr : d ∉ rows := fun hm => by have := hf d hm; rw [upd_self] at this; cases this
      refine ⟨⟨by rw [rowsAt_not hdr]; exact upd_self, De.nm rfl⟩, Xs.nil ⟨rfl, canvN, [.int wd, .int ht, .int l, .int t, .lst (rows.map .at)], upd_self, rows, rfl, hl, hn, fun r hr => ?_, ?_⟩⟩
      · have := hf r hr
        rw [upd_ne (fun e => hdr (by rw [← e]; exact hr))] at this
        exact this
      · rw [drop_rows hf hd]
        exact rowsAt_congr fun j _ => gridL_const
theorem d_AlphaMap {l t wd ht : Int} (h0 : 0 ≤ wd) (hw : wd ≤ 1000) (h0' : 0 ≤ ht) (hh : ht ≤ 1000) :
    Ca c (n + 2) (.ref 441) [.int l, .int t, .int wd, .int ht] σ (GridPost σ (amapP l t wd ht) l t wd ht (.int 0)) :=
  Ca.make (fI := 417) rfl rfl rfl fun d hd => Cc.fn ["self", "left", "top", "width", "height"] rfl (argn5 fun _ _ _ _ _ => rfl) fun L cells => by
    refine Xs.skip (Dt.is (Dt.or2 (Dt.cmp (De.nm rfl) De.num) fun _ => Dt.cmp (De.nm rfl) De.num) ?_) ?_
    · simp [cmpI]; (first | lia | omega)
    refine Xs.setA (.int l) s_AlphaMap_left (De.nm rfl) (De.nm rfl) ?_
    refine Xs.setA (.int t) s_AlphaMap_top (De.nm rfl) (De.nm rfl) ?_
    refine Xs.setA (.int wd) s_AlphaMap_width (De.nm rfl) (De.nm rfl) ?_
    refine Xs.setA (.int ht) s_AlphaMap_height (De.nm rfl) (De.nm rfl) ?_
    refine Xs.setE (d := d) (ns := ["left", "top", "width", "height"]) (l := [.int l, .int t, .int wd, .int ht]) s_AlphaMap_alphas (Ev.comp [none, none, some 3] (It.rg1 b_range (Ds.es (Ds.cons (De.nm rfl) Ds.nil) ⟨rfl, fun C cl => ?_⟩) (by (first | lia | omega))))
    refine CL.inv (tgt := fun p ρ => ρ.set 1 (some p)) (fun k acc σ' => ∃ rows, acc = rows.map .at ∧ rows.length = k ∧ rows.Nodup ∧ (∀ r ∈ rows, (σ.upd d (.flds ["left", "top", "width", "height"] [.int l, .int t, .int wd, .int ht])) r = none) ∧ σ' = rowsAt (σ.upd d (.flds ["left", "top", "width", "height"] [.int l, .int t, .int wd, .int ht])) rows fun _ => List.replicate wd.toNat (.int 0)) _ (fun p ρ _ => As.name (i := 1) rfl (.inl rfl)) (fun p q ρ _ _ => List.set_set ..) (fun k p acc σ' hk hI => ?_) (fun acc ρ σ' hI => ?_) _ _ ⟨[], rfl, rfl, List.nodup_nil, (fun r hr => nomatch hr), rowsAt_nil.symm⟩
    · obtain ⟨rows, rfl, rfl, hn, hf, rfl⟩ := hI
      have hk' := (nums_get hk).1
      refine ⟨true, rfl, fun _ => ⟨by rw [List.length_map]; (first | lia | omega), Ev.mulAt (De.ls (Ds.cons De.num Ds.nil)) (De.nm rfl) (by (first | lia | omega)) (by (first | lia | omega)) fun a ha => ?_⟩, fun h => by cases h⟩
      obtain ⟨ha1, ha2⟩ := rowsAt_none ha
      refine ⟨rows ++ [a], by simp, by simp, ?_, ?_, (rowsAt_snoc ha1).symm⟩
      · rw [List.nodup_append]
        exact ⟨hn, by simp, fun x hx y hy e => by simp at hy; subst hy; subst e; exact ha1 hx⟩
      · intro r hr
        rcases List.mem_append.mp hr with h | h
        · exact hf r h
        · simp at h; subst h; exact ha2
    · obtain ⟨rows, rfl, hl, hn, hf, rfl⟩ := hI
      rw [nums_length] at hl
      have hdr : d ∉ rows := fun hm => by have := hf d hm; rw [upd_self] at this; cases this
      refine ⟨⟨by rw [rowsAt_not hdr]; exact upd_self, De.nm rfl⟩, Xs.nil ⟨rfl, amapN, [.int l, .int t, .int wd, .int ht, .lst (rows.map .at)], upd_self, rows, rfl, hl, hn, fun r hr => ?_, ?_⟩⟩
      · have := hf r hr
        rw [upd_ne (fun e => hdr (by rw [← e]; exact hr))] at this
        exact this
      · rw [drop_rows hf hd]
        exact rowsAt_congr fun j _ => gridL_const
end
section
variable {prog : Program} {w : World} {c : Cx prog w (heapK w.params)} {n : Nat} {σ : Sto} {P : Params}
noncomputable def rowPts (l wd y : Int) : List Pt := (List.range wd.toNat).map fun (i : Nat) => (l + (i : Int), y)
noncomputable def placesV (l t wd ht : Int) : List Pt := (List.range ht.toNat).flatMap fun (j : Nat) => rowPts l wd (t + (j : Int))
noncomputable def placesTo (l t wd : Int) (k : Nat) : List Pt := (List.range k).flatMap fun (j : Nat) => rowPts l wd (t + (j : Int))
theorem placesTo_len {l t wd : Int} {k : Nat} : (placesTo l t wd k).length = k * wd.toNat := by
  unfold placesTo
  induction k with
  | zero => simp
  | succ k ih => rw [List.range_succ, List.flatMap_append, List.length_append, ih]; simp [rowPts, Nat.add_mul]
theorem d_places {l t wd ht : Int} {rows : List Addr} (hl : l.natAbs < 2 ^ 20) (ht' : t.natAbs < 2 ^ 20) (h0 : 0 ≤ wd) (hw : wd ≤ 100) (h0' : 0 ≤ ht) (hh : ht ≤ 100) : Dc c (n + 1) (.ref 384) [canvP l t wd ht rows] σ (.lst ((placesV l t wd ht).map pairP)) :=
  Dc.ofList <| Cc.ca <| Cc.fn ["self"] rfl (argn1 fun _ => rfl) fun L cells => by
    refine Xs.newL 1 fun b hb => ?_
    refine Xs.for (It.rg2 b_range (Ds.cons (De.fld (De.nm rfl) a_Canvas_top) (Ds.cons (De.add (De.fld (De.nm rfl) a_Canvas_top) (De.fld (De.nm rfl) a_Canvas_height)) Ds.nil)) (by (first | lia | omega)) (by (first | lia | omega)) (Loop.inv (I := fun k ρ σ' => (Some1 (fun u => [some (canvP l t wd ht rows), some (.at b), u, none]) ρ) ∧ σ' = σ.upd b (.list ((placesTo l t wd k).map pairP))) (fun k p ρ σ' hk hI => ?_) (fun ρ σ' hI => ?_) _ _ ⟨⟨none, rfl⟩, rfl⟩))
    · obtain ⟨⟨u, rfl⟩, rfl⟩ := hI
      obtain ⟨hk', rfl⟩ := nums_get hk
      refine ⟨_, As.nm (i := 2), ?_⟩
      have hb1 : k * wd.toNat ≤ 100 * 100 := Nat.mul_le_mul (by (first | lia | omega)) (by (first | lia | omega))
      refine Xs.ext (m := (rowPts l wd (t + k)).map pairP) (De.nm rfl) ?_ (by rw [List.length_map, placesTo_len]; (first | lia | omega)) (by simp [rowPts]; (first | lia | omega)) (Xs.nil ⟨⟨_, rfl⟩, ?_⟩)
      · refine Ev.comp [none, none, some 2] (It.rg2 b_range (Ds.cons (De.fld (De.nm rfl) a_Canvas_left) (Ds.cons (De.add (De.fld (De.nm rfl) a_Canvas_left) (De.fld (De.nm rfl) a_Canvas_width)) Ds.nil)) (by (first | lia | omega)) (by (first | lia | omega)) fun C cl => ?_)
        refine CL.mapName (i := 1) (fun p => .tup [p, .int (t + k)]) rfl (by rw [nums_length]; (first | lia | omega)) (fun p hp => De.tp (Ds.cons (De.nm rfl) (Ds.cons (De.nm rfl) Ds.nil))) fun ρ => ⟨?_, rfl⟩
        unfold nums rowPts
        rw [List.map_map, List.map_map]
        have e : (l + wd - l).toNat = wd.toNat := by (first | lia | omega)
        rw [e]; rfl
      · congr 2
        unfold placesTo
        rw [List.range_succ, List.flatMap_append, List.map_append]
        simp
    · obtain ⟨⟨u, rfl⟩, rfl⟩ := hI
      refine Xs.give (.at b) (De.nm rfl) ⟨b, rfl, hb, ?_⟩
      rw [nums_length]
      have e : (t + ht - t).toNat = ht.toNat := by (first | lia | omega)
      rw [e]; rfl
noncomputable def optC : Option Col → PV
  | none => .none
  | some a => colP a
noncomputable def commonV (a b : Col) : Option Col := if min (a.1 + a.2.2.1) (b.1 + b.2.2.1) ≤ max a.1 b.1 ∨ min (a.2.1 + a.2.2.2) (b.2.1 + b.2.2.2) ≤ max a.2.1 b.2.1 then none
  else some (max a.1 b.1, max a.2.1 b.2.1, min (a.1 + a.2.2.1) (b.1 + b.2.2.1) - max a.1 b.1, min (a.2.1 + a.2.2.2) (b.2.1 + b.2.2.2) - max a.2.1 b.2.1)
theorem De.c0 {env : Env} {ρ : List (Option PV)} {v : PySem.Expr} {pos p2 : Pos} {k : Nat} {a : Col} (hv : De c n env ρ σ v (colP a)) : De c n env ρ σ (.Subscript v (.Constant (.int 0) k p2) pos) (.int a.1) := De.item (j := 0) hv De.num (by decide) (by decide) rfl rfl
theorem De.c1 {env : Env} {ρ : List (Option PV)} {v : PySem.Expr} {pos p2 : Pos} {k : Nat} {a : Col} (hv : De c n env ρ σ v (colP a)) : De c n env ρ σ (.Subscript v (.Constant (.int 1) k p2) pos) (.int a.2.1) := De.item (j := 1) hv De.num (by decide) (by decide) rfl rfl
theorem De.c2 {env : Env} {ρ : List (Option PV)} {v : PySem.Expr} {pos p2 : Pos} {k : Nat} {a : Col} (hv : De c n env ρ σ v (colP a)) : De c n env ρ σ (.Subscript v (.Constant (.int 2) k p2) pos) (.int a.2.2.1) := De.item (j := 2) hv De.num (by decide) (by decide) rfl rfl
theorem De.c3 {env : Env} {ρ : List (Option PV)} {v : PySem.Expr} {pos p2 : Pos} {k : Nat} {a : Col} (hv : De c n env ρ σ v (colP a)) : De c n env ρ σ (.Subscript v (.Constant (.int 3) k p2) pos) (.int a.2.2.2) := De.item (j := 3) hv De.num (by decide) (by decide) rfl rfl
theorem d_common_tile {a b : Col} : Dc c (n + 1) (.ref 301) [colP a, colP b] σ (optC (commonV a b)) :=
  Cc.ca <| Cc.fn ["one", "other"] rfl (argn2 fun _ _ => rfl) fun L cells => by
    refine Xs.swap (xs := [Str.ofString "left", Str.ofString "top"]) (De.ev (pv := .tup [.int (max a.1 b.1), .int (max a.2.1 b.2.1)]) (De.tp (Ds.cons (De.bf Boot.max b_max (Ds.cons (De.c0 (De.nm rfl)) (Ds.cons (De.c0 (De.nm rfl)) Ds.nil)) Dc.max2) (Ds.cons (De.bf Boot.max b_max (Ds.cons (De.c1 (De.nm rfl)) (Ds.cons (De.c1 (De.nm rfl)) Ds.nil)) Dc.max2) Ds.nil))) ⟨[.int (max a.1 b.1), .int (max a.2.1 b.2.1)], _, rfl, rfl, .cons (i := 3) rfl (.inl rfl) (.cons (i := 2) rfl (.inl rfl) (.nil _)), ?_⟩)
    refine Xs.let 4 (.int (min (a.1 + a.2.2.1) (b.1 + b.2.2.1))) (De.bf Boot.min b_min (Ds.cons (De.add (De.c0 (De.nm rfl)) (De.c2 (De.nm rfl))) (Ds.cons (De.add (De.c0 (De.nm rfl)) (De.c2 (De.nm rfl))) Ds.nil)) Dc.min2) ?_
    refine Xs.let 5 (.int (min (a.2.1 + a.2.2.2) (b.2.1 + b.2.2.2))) (De.bf Boot.min b_min (Ds.cons (De.add (De.c1 (De.nm rfl)) (De.c3 (De.nm rfl))) (Ds.cons (De.add (De.c1 (De.nm rfl)) (De.c3 (De.nm rfl))) Ds.nil)) Dc.min2) ?_
    refine Xs.ifs (Dt.or2 (Dt.cmp (De.nm rfl) (De.nm rfl)) fun _ => Dt.cmp (De.nm rfl) (De.nm rfl)) (fun h => ?_) fun h => ?_
    · refine Xs.give .none De.nothing ⟨?_, rfl⟩
      have : min (a.1 + a.2.2.1) (b.1 + b.2.2.1) ≤ max a.1 b.1 ∨ min (a.2.1 + a.2.2.2) (b.2.1 + b.2.2.2) ≤ max a.2.1 b.2.1 := by
        simp [cmpI] at h; omega
      unfold commonV
      rw [if_pos this]; rfl
    · refine Xs.give _ (De.tp (Ds.cons (De.nm rfl) (Ds.cons (De.nm rfl) (Ds.cons (De.sub (De.nm rfl) (De.nm rfl)) (Ds.cons (De.sub (De.nm rfl) (De.nm rfl)) Ds.nil))))) ⟨?_, rfl⟩
      have : ¬ (min (a.1 + a.2.2.1) (b.1 + b.2.2.1) ≤ max a.1 b.1 ∨ min (a.2.1 + a.2.2.2) (b.2.1 + b.2.2.2) ≤ max a.2.1 b.2.1) := by
        simp [cmpI] at h; omega
      unfold commonV
      rw [if_neg this]; rfl
noncomputable def tileV : Option Col → Option Col
  | none => none
  | some b => if b.2.2.1 ≤ b.1 ∨ b.2.2.2 ≤ b.2.1 then none else some (b.1 / 4, b.2.1 / 4, -(-b.2.2.1 / 4) - b.1 / 4, -(-b.2.2.2 / 4) - b.2.1 / 4)
theorem fdiv4 (a : Int) : a.fdiv 4 = a / 4 := Int.fdiv_eq_ediv_of_nonneg a (by decide)
theorem d_tile_of_box {b : Option Col} : Dc c (n + 1) (.ref 308) [optC b, .int 4] σ (optC (tileV b)) :=
  Cc.ca <| Cc.fn ["box", "grain"] rfl (argn2 fun _ _ => rfl) fun L cells => by
    cases b with
    | none =>
      refine Xs.take (Dt.is (Dt.or3 (b := false) (d := false) (Dt.isNone (De.nm rfl)) (fun h => by cases h) (fun h => by cases h)) rfl) (Xs.give .none De.nothing ⟨rfl, rfl⟩)
    | some b =>
      refine Xs.ifs (Dt.or3 (Dt.isNone (De.nm rfl)) (fun _ => Dt.cmp (De.c2 (De.nm rfl)) (De.c0 (De.nm rfl))) fun _ _ => Dt.cmp (De.c3 (De.nm rfl)) (De.c1 (De.nm rfl))) (fun h => ?_) fun h => ?_
      · refine Xs.give .none De.nothing ⟨?_, rfl⟩
        have : b.2.2.1 ≤ b.1 ∨ b.2.2.2 ≤ b.2.1 := by
          rw [show (optC (some b)).isNone = false from rfl] at h
          simpa [cmpI] using h
        simp only [tileV]
        rw [if_pos this]; rfl
      · have : ¬ (b.2.2.1 ≤ b.1 ∨ b.2.2.2 ≤ b.2.1) := by
          rw [show (optC (some b)).isNone = false from rfl] at h
          simpa [cmpI] using h
        refine Xs.swap (xs := [Str.ofString "left", Str.ofString "top"]) (De.ev (pv := .tup [.int (b.1.fdiv 4), .int (b.2.1.fdiv 4)]) (De.tp (Ds.cons (De.fdiv (De.c0 (De.nm rfl)) (De.nm rfl) (by decide) (smallDiv (by decide))) (Ds.cons (De.fdiv (De.c1 (De.nm rfl)) (De.nm rfl) (by decide) (smallDiv (by decide))) Ds.nil))) ⟨[.int (b.1.fdiv 4), .int (b.2.1.fdiv 4)], _, rfl, rfl, .cons (i := 3) rfl (.inl rfl) (.cons (i := 2) rfl (.inl rfl) (.nil _)), ?_⟩)
        refine Xs.swap (xs := [Str.ofString "right", Str.ofString "bottom"]) (De.ev (pv := .tup [.int (-(-b.2.2.1).fdiv 4), .int (-(-b.2.2.2).fdiv 4)]) (De.tp (Ds.cons (De.neg (De.fdiv (De.neg (De.c2 (De.nm rfl))) (De.nm rfl) (by decide) (smallDiv (by decide)))) (Ds.cons (De.neg (De.fdiv (De.neg (De.c3 (De.nm rfl))) (De.nm rfl) (by decide) (smallDiv (by decide)))) Ds.nil))) ⟨[.int (-(-b.2.2.1).fdiv 4), .int (-(-b.2.2.2).fdiv 4)], _, rfl, rfl, .cons (i := 5) rfl (.inl rfl) (.cons (i := 4) rfl (.inl rfl) (.nil _)), ?_⟩)
        refine Xs.give _ (De.tp (Ds.cons (De.nm rfl) (Ds.cons (De.nm rfl) (Ds.cons (De.sub (De.nm rfl) (De.nm rfl)) (Ds.cons (De.sub (De.nm rfl) (De.nm rfl)) Ds.nil))))) ⟨?_, rfl⟩
        simp only [tileV]
        rw [if_neg this, fdiv4, fdiv4, fdiv4, fdiv4]; rfl
theorem d_rectangle_of {l t wd ht : Int} {rows : List Addr} : Dc c (n + 1) (.ref 315) [canvP l t wd ht rows] σ (colP (l, t, wd, ht)) :=
  Cc.ca <| Cc.fn ["canvas"] rfl (argn1 fun _ => rfl) fun L cells =>
    Xs.give _ (De.tp (Ds.cons (De.fld (De.nm rfl) a_Canvas_left) (Ds.cons (De.fld (De.nm rfl) a_Canvas_top) (Ds.cons (De.fld (De.nm rfl) a_Canvas_width) (Ds.cons (De.fld (De.nm rfl) a_Canvas_height) Ds.nil))))) ⟨rfl, rfl⟩
end
section
variable {prog : Program} {w : World} {c : Cx prog w (heapK w.params)} {n : Nat} {σ : Sto} {P : Params}
structure ClipV where
  l : Int
  t : Int
  wd : Int
  ht : Int
  rows : List Addr
  g : Int → Int → Int
noncomputable def clipP : Option ClipV → PV
  | none => .none
  | some k => amapP k.l k.t k.wd k.ht k.rows
noncomputable def ClipIn (σ : Sto) : Option ClipV → Prop
  | none => True
  | some k => GridIn σ k.l k.t k.wd k.ht k.rows (fun x y => .int (k.g x y)) ∧ k.wd ≤ 1000 ∧ k.ht ≤ 1000 ∧ ∀ x y, 0 ≤ k.g x y ∧ k.g x y ≤ 255
noncomputable def letV : Option ClipV → Int → Int → Int
  | none, _, _ => 255
  | some k, x, y => if k.l ≤ x ∧ x < k.l + k.wd ∧ k.t ≤ y ∧ y < k.t + k.ht then k.g x y else 0
theorem letV_le {σ : Sto} {k : Option ClipV} (h : ClipIn σ k) {x y : Int} : 0 ≤ letV k x y ∧ letV k x y ≤ 255 := by
  cases k with
  | none => simp [letV]
  | some k =>
    obtain ⟨_, _, _, h4⟩ := h
    simp only [letV]
    split
    · exact h4 x y
    · (first | lia | omega)
noncomputable def shareV (alpha opacity : Int) (k : Option ClipV) (x y : Int) : Int := if k.isNone = true ∨ weightedV alpha opacity = 0 then weightedV alpha opacity else weightedV (weightedV alpha opacity) (letV k x y)
theorem d_share {alpha opacity x y : Int} {k : Option ClipV} (hk : ClipIn σ k) (ho : opacity.natAbs < 2 ^ 20) : Dc c (n + 3) (.ref 322) [.int alpha, .int opacity, clipP k, .int x, .int y] σ (.int (shareV alpha opacity k x y)) :=
  Cc.ca <| Cc.fn ["alpha", "opacity", "clip", "x", "y"] rfl (argn5 fun _ _ _ _ _ => rfl) fun L cells => by
    refine Xs.let 5 (.int (weightedV alpha opacity)) (De.fn f_weighted (Ds.cons (De.nm rfl) (Ds.cons (De.nm rfl) Ds.nil)) (d_weighted ho)) ?_
    cases k with
    | none =>
      refine Xs.give _ (De.is (De.ifexp (q := .none) (Dt.is (Dt.or2 (b := false) (Dt.isNone (De.nm rfl)) fun h => by cases h) (b' := true) rfl) (fun _ => De.nm rfl) fun h => by cases h) ?_) ⟨rfl, rfl⟩
      unfold shareV
      rw [if_pos rfl, if_pos (show (none : Option ClipV).isNone = true ∨ weightedV alpha opacity = 0 from Or.inl rfl)]
    | some k =>
      have hl := letV_le hk (x := x) (y := y)
      obtain ⟨h1, h2, h3, h4⟩ := hk
      refine Xs.give _ (De.is (De.ifexp (Dt.or2 (Dt.isNone (De.nm rfl)) fun _ => Dt.cmp (De.nm rfl) De.num) (fun _ => De.nm rfl) fun _ => De.fn f_weighted (Ds.cons (De.nm rfl) (Ds.cons (De.meth (De.nm rfl) m_AlphaMap_alpha (by decide) (Ds.cons (De.nm rfl) (Ds.cons (De.nm rfl) Ds.nil)) (d_amap_alpha h1 (by omega) (by omega))) Ds.nil)) (d_weighted ?_)) ?_) ⟨rfl, rfl⟩
      · simp only [letV] at hl; omega
      · unfold shareV
        by_cases hz : weightedV alpha opacity = 0
        · rw [if_pos (by simp [cmpI, hz]), if_pos (Or.inr hz)]
        · rw [if_neg (by simp [cmpI, hz, clipP, amapP, PV.isNone]), if_neg (show ¬ ((some k).isNone = true ∨ weightedV alpha opacity = 0) from fun h => h.elim (fun h => by cases h) hz)]
          simp only [letV]
noncomputable def thinnedV (a : Col) (alpha : Int) : Col := if alpha = 255 then a else (weightedV a.1 alpha, weightedV a.2.1 alpha, weightedV a.2.2.1 alpha, weightedV a.2.2.2 alpha)
theorem d_thinned {a : Col} {alpha : Int} (ho : alpha.natAbs < 2 ^ 20) : Dc c (n + 2) (.ref 327) [colP a, .int alpha] σ (colP (thinnedV a alpha)) :=
  Cc.ca <| Cc.fn ["colour", "alpha"] rfl (argn2 fun _ _ => rfl) fun L cells => by
    refine Xs.ifs (Dt.cmp (De.nm rfl) (De.gn rfl g_FULL_painter)) (fun h => ?_) fun h => ?_
    · have h : alpha = 255 := by simpa [cmpI] using h
      refine Xs.give _ (De.nm rfl) ⟨?_, rfl⟩
      unfold thinnedV
      rw [if_pos h]
    · have h : ¬ alpha = 255 := by simpa [cmpI] using h
      refine Xs.ret (De.ev (pv := colP (thinnedV a alpha)) (De.bt Boot.tuple b_tuple (l := [.lst (intsP (colL (thinnedV a alpha)))]) (Ds.cons ?_ Ds.nil) (Dc.tupleL (show 4 ≤ 1000000 by decide))) ⟨rfl, rfl⟩)
      refine Ev.comp [none, none, none, some 1] (It.sq (De.nm rfl) (.inr rfl) fun C cl => ?_)
      refine CL.mapInts (i := 1) (a := colL a) (fun u => weightedV u alpha) rfl (show 4 ≤ 100000 by decide) (fun u hu => ?_) fun ρ => ⟨?_, rfl⟩
      · exact De.fn f_weighted (Ds.cons (De.nm rfl) (Ds.cons (De.nm rfl) Ds.nil)) (d_weighted ho)
      · unfold thinnedV
        rw [if_neg h]; rfl
end
section
variable {prog : Program} {w : World} {c : Cx prog w (heapK w.params)} {n : Nat} {σ : Sto} {P : Params}
noncomputable def spotNames : List (Str × NameKind) := [(Str.ofString ".0", .local), (Str.ofString "contour", .local), (Str.ofString "spot", .local)]
theorem cl_spots {cenv : Env} {pos p2 : Pos} {Q : List PV → List (Option PV) → Sto → Prop} (hn : cenv.scope.names = spotNames) : ∀ (pts : List Pt) (acc : List PV) (a b x : Option PV), acc.length + pts.length ≤ 100000 → (∀ x, Q (acc ++ pts.map pairP) [a, b, x] σ) →
    CL c n cenv (.Name (Str.ofString "spot") pos) [] (EltP c n (.Name (Str.ofString "spot") p2) cenv) Q (pts.map pairP) acc [a, b, x] σ
  | [], acc, a, b, x, hz, hq => by
    have := hq x
    rw [List.map_nil, List.append_nil] at this
    exact this
  | p :: pts, acc, a, b, x, hz, hq => by
    refine ⟨[a, b, some (pairP p)], true, As.name (i := 2) (k := .local) (by rw [hn]; rfl) (.inl rfl), rfl, fun _ => ⟨by simp at hz; (first | lia | omega), De.ev (De.nm (pv := pairP p) (by rw [hn]; rfl)) ?_⟩, fun h => by cases h⟩
    refine cl_spots hn pts (acc ++ [pairP p]) a b _ (by simp at hz ⊢; (first | lia | omega)) fun x => ?_
    have := hq x
    rw [List.append_assoc]
    exact this
theorem cl_all {cenv : Env} {pos pos' p2 p3 p4 p5 : Pos} {k : Nat} {Q : List PV → List (Option PV) → Sto → Prop} (hn : cenv.scope.names = spotNames) : ∀ (cs : List (List Pt)) (acc : List PV) (a b x : Option PV), acc.length + cs.flatten.length ≤ 100000 → (∀ b x, Q (acc ++ cs.flatten.map pairP) [a, b, x] σ) →
    CL c n cenv (.Name (Str.ofString "contour") pos) [] (Em2P c n (.Name (Str.ofString "spot") p2) (.Name (Str.ofString "spot") pos') (.Subscript (.Name (Str.ofString "contour") p3) (.Constant (.int 0) k p4) p5) [] cenv) Q (cs.map contP) acc [a, b, x] σ
  | [], acc, a, b, x, hz, hq => by
    have := hq b x
    rw [List.flatten_nil, List.map_nil, List.append_nil] at this
    exact this
  | pts :: cs, acc, a, b, x, hz, hq => by
    refine ⟨[a, some (contP pts), x], true, As.name (i := 1) (k := .local) (by rw [hn]; rfl) (.inl rfl), rfl, fun _ => ?_, fun h => by cases h⟩
    refine It.sq (l := pts.map pairP) (De.item (j := 0) (De.nm (pv := contP pts) (by rw [hn]; rfl)) De.num (by decide) (by decide) rfl rfl) (.inr rfl) ?_
    refine cl_spots hn pts acc a _ x (by simp at hz; (first | lia | omega)) fun x => ?_
    refine cl_all hn cs (acc ++ pts.map pairP) a _ x (by simp at hz ⊢; (first | lia | omega)) fun b x => ?_
    have := hq b x
    rw [List.append_assoc, ← List.map_append]
    exact this
noncomputable def boxV (cs : List (List Pt)) : Col := (lowOf (cs.flatten.map (·.1)), lowOf (cs.flatten.map (·.2)), topOf (cs.flatten.map (·.1)), topOf (cs.flatten.map (·.2)))
theorem flat_len {cs : List (List Pt)} (h : ∀ pts ∈ cs, pts.length ≤ 20) : cs.flatten.length ≤ 20 * cs.length := by
  induction cs with
  | nil => simp
  | cons x cs ih =>
    have := ih fun p hp => h p (List.mem_cons_of_mem _ hp)
    have h2 := h x List.mem_cons_self
    simp only [List.flatten_cons, List.length_append, List.length_cons]
    (first | lia | omega)
theorem flat_ne {cs : List (List Pt)} (hc : Conts cs) : cs.flatten ≠ [] := by
  cases cs with
  | nil => exact absurd rfl hc.ne
  | cons x cs =>
    have := (hc.one x List.mem_cons_self).1
    intro e
    rw [List.flatten_cons] at e
    have := (List.append_eq_nil_iff.mp e).1
    subst this
    simp at *
theorem d_box_of {cs : List (List Pt)} (hc : Conts cs) : Dc c (n + 1) (.ref 38) [contsP cs] σ (optC (some (boxV cs))) :=
  Cc.ca <| Cc.fn ["contours"] rfl (argn1 fun _ => rfl) fun L cells => by
    have hf := flat_len fun p hp => (hc.one p hp).2
    have hfew := hc.few
    have hne := flat_ne hc
    refine Xs.cons (Ex.assignComp2 (i := 1) [none, none, none] rfl (It.sq (De.nm rfl) (.inl rfl) fun C cl => cl_all rfl cs [] _ _ _ (by rw [List.length_nil]; (first | lia | omega)) fun b x => ?_))
    rw [List.nil_append]
    refine Xs.skip (Dt.is (Dt.cmpBy (De.nm rfl) (De.ls Ds.nil) (CmpTo.eqNil (.inl rfl))) ?_) ?_
    · cases h : cs.flatten with
      | nil => exact absurd h hne
      | cons a l => rfl
    refine Xs.swap (xs := [Str.ofString "across", Str.ofString "upright"]) (Ev.tuple (Es.cons (Ev.comp [none, none] (It.sq (De.nm rfl) (.inl rfl) fun C cl => CL.mapName (i := 1) (fun p => match p with | .tup (q :: _) => q | _ => .none) rfl (by rw [List.length_map]; (first | lia | omega)) (fun p hp => ?_) fun ρ => Es.cons (Ev.comp [none, none] (It.sq (De.nm rfl) (.inl rfl) fun C cl => CL.mapName (i := 1) (fun p => match p with | .tup (_ :: q :: _) => q | _ => .none) rfl (by rw [List.length_map]; (first | lia | omega)) (fun p hp => ?_) fun ρ => Es.nil ?_))))))
    · obtain ⟨a, _, rfl⟩ := List.mem_map.mp hp
      exact De.fst (a := a) (De.nm rfl)
    · obtain ⟨a, _, rfl⟩ := List.mem_map.mp hp
      exact De.snd (a := a) (De.nm rfl)
    · have e1 : ((cs.flatten.map pairP).map fun p => match p with | .tup (q :: _) => q | _ => .none) = intsP (cs.flatten.map (·.1)) := by
        unfold intsP
        rw [List.map_map, List.map_map]; rfl
      have e2 : ((cs.flatten.map pairP).map fun p => match p with | .tup (_ :: q :: _) => q | _ => .none) = intsP (cs.flatten.map (·.2)) := by
        unfold intsP
        rw [List.map_map, List.map_map]; rfl
      rw [e1, e2]
      have n1 : cs.flatten.map (·.1) ≠ [] := fun e => hne (List.map_eq_nil_iff.mp e)
      have n2 : cs.flatten.map (·.2) ≠ [] := fun e => hne (List.map_eq_nil_iff.mp e)
      refine ⟨show 2 ≤ 1000 by decide, _, _, rfl, rfl, .cons (i := 3) rfl (.inl rfl) (.cons (i := 2) rfl (.inl rfl) (.nil _)), ?_⟩
      exact Xs.give _ (De.tp (Ds.cons (De.bf Boot.min b_min (Ds.cons (De.nm rfl) Ds.nil) (Dc.minL n1)) (Ds.cons (De.bf Boot.min b_min (Ds.cons (De.nm rfl) Ds.nil) (Dc.minL n2)) (Ds.cons (De.bf Boot.max b_max (Ds.cons (De.nm rfl) Ds.nil) (Dc.maxL n1)) (Ds.cons (De.bf Boot.max b_max (Ds.cons (De.nm rfl) Ds.nil) (Dc.maxL n2)) Ds.nil))))) ⟨rfl, rfl⟩
end
noncomputable def ind (sp : List (Int × Int)) (k : Int) : Int := (sp.map fun p => if p.1 ≤ k ∧ k < p.2 then (1 : Int) else 0).sum
noncomputable def upTo (l : List (Int × Int)) (k : Int) : Int := (l.map fun p => if p.1 ≤ k then p.2 else 0).sum
noncomputable def secs (l : List (Int × Int)) : Int := (l.map (·.2)).sum
noncomputable def b01 (b : Bool) : Int := if b = true then 1 else 0
noncomputable def opened (be : Option Int) (k : Int) : Int := match be with
  | none => 0
  | some b => if b ≤ k then 1 else 0
theorem ind_cons {p : Int × Int} {sp : List (Int × Int)} {k : Int} : ind (p :: sp) k = (if p.1 ≤ k ∧ k < p.2 then (1 : Int) else 0) + ind sp k := by unfold ind; simp
theorem upTo_cons {p : Int × Int} {l : List (Int × Int)} {k : Int} : upTo (p :: l) k = (if p.1 ≤ k then p.2 else 0) + upTo l k := by unfold upTo; simp
theorem secs_cons {p : Int × Int} {l : List (Int × Int)} : secs (p :: l) = p.2 + secs l := by unfold secs; simp
theorem upTo_low {l : List (Int × Int)} {k : Int} (h : ∀ p ∈ l, k < p.1) : upTo l k = 0 := by
  induction l with
  | nil => rfl
  | cons p l ih =>
    rw [upTo_cons, ih fun q hq => h q (List.mem_cons_of_mem _ hq), if_neg (by have := h p List.mem_cons_self; (first | lia | omega))]; rfl
theorem spansGo_ind (rule : Str) : ∀ (l : List (Int × Int)) (wi : Int) (be : Option Int) (k : Int), l.Pairwise (fun p q => p.1 ≤ q.1) → (∀ b, be = some b → ∀ p ∈ l, b ≤ p.1) → insideV (wi + secs l) rule = false → l ≠ [] →
    ind (spansGo rule l wi be) k = if (∀ p ∈ l, k < p.1) then opened be k else b01 (insideV (wi + upTo l k) rule)
  | [], _, _, _, _, _, _, h => absurd rfl h
  | (col, d) :: rest, wi, be, k, hs, hb, ht, _ => by
    have hs' := (List.pairwise_cons.mp hs).2
    have hlow := (List.pairwise_cons.mp hs).1
    have hcond : (∀ p ∈ (col, d) :: rest, k < p.1) ↔ k < col := by
      constructor
      · intro h; exact h (col, d) List.mem_cons_self
      · intro h p hp
        rcases List.mem_cons.mp hp with rfl | hp
        · exact h
        · have := hlow p hp; dsimp only at this; (first | lia | omega)
    have ht' : insideV ((wi + d) + secs rest) rule = false := by
      rw [secs_cons] at ht
      rw [Int.add_assoc]; exact ht
    rw [spansGo_cons, upTo_cons]
    simp only [hcond]
    by_cases hn : nextSame rest col = true
    · rw [if_pos hn]
      cases rest with
      | nil => simp [nextSame] at hn
      | cons q rest =>
        have hq : q.1 = col := by simpa [nextSame] using hn
        rw [spansGo_ind rule (q :: rest) (wi + d) be k hs' (fun b e p hp => hb b e p (List.mem_cons_of_mem _ hp)) ht' (by simp)]
        have hc2 : (∀ p ∈ q :: rest, k < p.1) ↔ k < col := by
          constructor
          · intro h; have := h q List.mem_cons_self; (first | lia | omega)
          · intro h p hp
            have := hlow p hp; dsimp only at this; (first | lia | omega)
        simp only [hc2]
        by_cases hk : k < col
        · rw [if_pos hk, if_pos hk]
        · rw [if_neg hk, if_neg hk, if_pos (show col ≤ k by (first | lia | omega)), Int.add_assoc]
    · rw [if_neg hn]
      have hgt : ∀ p ∈ rest, col < p.1 := by
        cases rest with
        | nil => intro p hp; cases hp
        | cons q rest =>
          have hq : q.1 ≠ col := by simpa [nextSame] using hn
          have h1 := hlow q List.mem_cons_self
          dsimp only at h1
          intro p hp
          rcases List.mem_cons.mp hp with rfl | hp
          · (first | lia | omega)
          · have := (List.pairwise_cons.mp hs').1 p hp; (first | lia | omega)
      have key : ∀ be', (∀ b, be' = some b → b ≤ col) → (rest = [] → be' = none) → ind (spansGo rule rest (wi + d) be') k = if (∀ p ∈ rest, k < p.1) then (if rest = [] then 0 else opened be' k) else b01 (insideV (wi + d + upTo rest k) rule) := by
        intro be' h1 h2
        by_cases hr : rest = []
        · subst hr
          simp [spansGo, ind]
        · rw [spansGo_ind rule rest (wi + d) be' k hs' (fun b e p hp => by have := h1 b e; have := hgt p hp; (first | lia | omega)) ht' hr, if_neg hr]
      by_cases hi : insideV (wi + d) rule = true
      · rw [if_pos hi]
        have hr : rest ≠ [] := by
          intro e
          subst e
          rw [show secs [] = 0 from rfl, Int.add_zero, hi] at ht'
          cases ht'
        rw [key (some (be.getD col)) (fun b e => by
          cases e
          cases hbe : be with
          | none => exact Int.le_refl _
          | some b0 => exact hb b0 hbe (col, d) List.mem_cons_self) (fun e => absurd e hr), if_neg hr]
        by_cases hk : k < col
        · rw [if_pos hk, if_pos fun p hp => by have := hgt p hp; (first | lia | omega)]
          cases be with
          | none => simp [opened]; (first | lia | omega)
          | some b0 => rfl
        · rw [if_neg hk, if_pos (show col ≤ k by (first | lia | omega))]
          by_cases hk2 : ∀ p ∈ rest, k < p.1
          · rw [if_pos hk2, upTo_low hk2, Int.add_zero, hi]
            have : be.getD col ≤ k := by
              cases hbe : be with
              | none => simp; (first | lia | omega)
              | some b0 => have := hb b0 hbe (col, d) List.mem_cons_self; simp; dsimp only at this; (first | lia | omega)
            simp [opened, this, b01]
          · rw [if_neg hk2, Int.add_assoc]
      · rw [if_neg hi]
        have hi' : insideV (wi + d) rule = false := by simpa using hi
        have key' := key none (fun b e => by cases e) (fun _ => rfl)
        have e0 : (if rest = [] then (0 : Int) else opened none k) = 0 := by split <;> rfl
        rw [e0] at key'
        have tail : (if k < col then (0 : Int) else b01 (insideV (wi + ((if col ≤ k then d else 0) + upTo rest k)) rule)) = ind (spansGo rule rest (wi + d) none) k := by
          rw [key']
          by_cases hk : k < col
          · rw [if_pos hk, if_pos fun p hp => by have := hgt p hp; (first | lia | omega)]
          · rw [if_neg hk, if_pos (show col ≤ k by (first | lia | omega))]
            by_cases hk2 : ∀ p ∈ rest, k < p.1
            · rw [if_pos hk2, upTo_low hk2, Int.add_zero, hi']; rfl
            · rw [if_neg hk2, Int.add_assoc]
        cases be with
        | none =>
          dsimp only
          rw [← tail]
          rfl
        | some b0 =>
          dsimp only
          rw [ind_cons, ← tail]
          by_cases hk : k < col
          · rw [if_pos hk, if_pos hk]
            simp [opened, hk]
          · rw [if_neg hk, if_neg hk]
            dsimp only
            rw [if_neg (by (first | lia | omega)), Int.zero_add]
theorem ov_ind {b e x : Int} : ov b e x = (if b ≤ 2 * x ∧ 2 * x < e then (1 : Int) else 0) + (if b ≤ 2 * x + 1 ∧ 2 * x + 1 < e then (1 : Int) else 0) := by
  by_cases h : e ≤ b
  · rw [ov_zero h, if_neg fun z => absurd (Int.lt_of_le_of_lt z.1 z.2) (Int.not_lt.mpr h), if_neg fun z => absurd (Int.lt_of_le_of_lt z.1 z.2) (Int.not_lt.mpr h)]; rfl
  · have h := Int.not_le.mp h
    have key : ∀ t : Int, clampX x t = 2 * x + ((if 2 * x < t then 1 else 0) + (if 2 * x + 1 < t then 1 else 0)) := by
      intro t
      by_cases h1 : t ≤ 2 * x
      · rw [clamp_lo h1, if_neg (Int.not_lt.mpr h1), if_neg (Int.not_lt.mpr (Int.le_trans h1 (by lia)))]; simp
      · have h1 := Int.not_le.mp h1
        rw [if_pos h1]
        by_cases h2 : t ≤ 2 * x + 1
        · rw [if_neg (Int.not_lt.mpr h2), clamp_id (Int.le_of_lt h1) (by lia)]; lia
        · rw [if_pos (Int.not_le.mp h2), clamp_hi (by lia)]; rfl
    have ind : ∀ c : Int, (if b ≤ c ∧ c < e then (1 : Int) else 0) = (if c < e then 1 else 0) - (if c < b then 1 else 0) := by
      intro c
      by_cases h1 : c < b
      · rw [if_neg fun z => absurd h1 (Int.not_lt.mpr z.1), if_pos h1, if_pos (Int.lt_trans h1 h)]; rfl
      · rw [if_neg h1, Int.sub_zero]
        by_cases h2 : c < e
        · rw [if_pos ⟨Int.not_lt.mp h1, h2⟩, if_pos h2]
        · rw [if_neg fun z => h2 z.2, if_neg h2]
    rw [ov_clamp (Int.le_of_lt h), key, key, ind, ind]
    lia
theorem cover_ind {sp : List (Int × Int)} {x : Int} : cover sp x = ind sp (2 * x) + ind sp (2 * x + 1) := by
  induction sp with
  | nil => rfl
  | cons p sp ih =>
    rw [ind_cons, ind_cons]
    have : cover (p :: sp) x = ov p.1 p.2 x + cover sp x := by unfold cover; simp
    rw [this, ih, ov_ind]
    (first | lia | omega)
theorem perm_sum {l l' : List Int} (h : l.Perm l') : l.sum = l'.sum := by
  induction h with
  | nil => rfl
  | cons x _ ih => simp [ih]
  | swap x y l => simp; (first | lia | omega)
  | trans _ _ h1 h2 => exact h1.trans h2
theorem upTo_perm {l l' : List (Int × Int)} (h : l.Perm l') (k : Int) : upTo l k = upTo l' k := perm_sum (h.map _)
theorem secs_perm {l l' : List (Int × Int)} (h : l.Perm l') : secs l = secs l' := perm_sum (h.map _)
theorem inside_zero {e : Bool} : insideV 0 (ruleS e) = false := by cases e <;> decide +kernel
theorem spans_ind {l : List (Int × Int)} {e : Bool} {k : Int} (hs : l.Pairwise fun p q => p.1 ≤ q.1) (h0 : secs l = 0) : ind (spansV l (ruleS e)) k = b01 (insideV (upTo l k) (ruleS e)) := by
  by_cases hl : l = []
  · subst hl
    rw [show upTo [] k = 0 from rfl, inside_zero]; rfl
  · unfold spansV
    rw [spansGo_ind (ruleS e) l 0 none k hs (fun b h => by cases h) (by rw [h0]; exact inside_zero) hl, Int.zero_add]
    by_cases hk : ∀ p ∈ l, k < p.1
    · rw [if_pos hk, upTo_low hk, inside_zero]; rfl
    · rw [if_neg hk]
theorem row_cover {ss : List SideV} {e : Bool} {r x : Int} {sp : List (Int × Int)} (hw : ∀ s ∈ ss, s.way = 1 ∨ s.way = -1) (h : SpanRow ss e r sp) (h0 : secs (stepsV ss (r * 2 + 1) 2) = 0) :
    cover sp x = b01 (insideV (upTo (stepsV ss (r * 2 + 1) 2) (2 * x)) (ruleS e)) + b01 (insideV (upTo (stepsV ss (r * 2 + 1) 2) (2 * x + 1)) (ruleS e)) := by
  obtain ⟨l', hp, hs, rfl⟩ := h
  have hway : ∀ p ∈ l', p.2 = 1 ∨ p.2 = -1 := fun p hm => by
    have := hp.mem_iff.mp hm
    unfold stepsV at this
    obtain ⟨s, hs, rfl⟩ := List.mem_map.mp this
    exact hw s (List.mem_filter.mp hs).1
  have hs' : l'.Pairwise fun p q => p.1 ≤ q.1 := by
    unfold SortedPairs at hs
    refine List.Pairwise.imp_of_mem (fun {p q} hp hq hpq => ?_) hs
    have := hway p hp
    have := hway q hq
    (first | lia | omega)
  rw [cover_ind, spans_ind hs' (by rw [secs_perm hp]; exact h0), spans_ind hs' (by rw [secs_perm hp]; exact h0), upTo_perm hp, upTo_perm hp]
theorem ceilV_le {p q k : Int} (hq : 0 < q) : ceilV p q ≤ k ↔ p ≤ k * q := by
  unfold ceilV
  rw [Int.fdiv_eq_ediv_of_nonneg _ (Int.le_of_lt hq)]
  constructor
  · intro h
    have h1 : -k ≤ (0 - p) / q := by (first | lia | omega)
    have h2 := (Int.le_ediv_iff_mul_le hq).mp h1
    rw [Int.neg_mul] at h2
    (first | lia | omega)
  · intro h
    have h2 : -k * q ≤ 0 - p := by rw [Int.neg_mul]; (first | lia | omega)
    have := (Int.le_ediv_iff_mul_le hq).mpr h2
    (first | lia | omega)
theorem colBehind_le {p q k : Int} (hq : 0 < q) : colBehindV p q 2 ≤ k ↔ p ≤ (2 * k + 1) * q := by
  unfold colBehindV
  rw [ceilV_le (by (first | lia | omega))]
  have e1 : k * (2 * 2 * q) = 4 * (k * q) := by rw [show (2 * 2 * q : Int) = 4 * q from rfl, Int.mul_left_comm]
  have e2 : (2 * k + 1) * q = 2 * (k * q) + q := by rw [Int.add_mul, Int.one_mul, Int.mul_assoc]
  rw [e1, e2]
  (first | lia | omega)
noncomputable def windS (ss : List SideV) (x y : Int) : Int := (ss.map fun s => if coversV s y = true ∧ placeV s y ≤ x * (s.y2 - s.y1) then s.way else 0).sum
theorem upTo_steps {ss : List SideV} {y k : Int} (hu : ∀ s ∈ ss, s.y1 < s.y2) : upTo (stepsV ss y 2) k = windS ss (2 * k + 1) y := by
  induction ss with
  | nil => rfl
  | cons s ss ih =>
    have ih := ih fun x hx => hu x (List.mem_cons_of_mem _ hx)
    have hs := hu s List.mem_cons_self
    have e : windS (s :: ss) (2 * k + 1) y = (if coversV s y = true ∧ placeV s y ≤ (2 * k + 1) * (s.y2 - s.y1) then s.way else 0) + windS ss (2 * k + 1) y := by unfold windS; simp
    rw [e, ← ih]
    unfold stepsV
    by_cases hc : coversV s y = true
    · rw [List.filter_cons, if_pos hc, List.map_cons, upTo_cons]
      dsimp only
      simp only [colBehind_le (show 0 < s.y2 - s.y1 by (first | lia | omega)), hc, true_and]
    · rw [List.filter_cons, if_neg hc, if_neg (fun h => hc h.1), Int.zero_add]
noncomputable def allS (ss : List SideV) (y : Int) : Int := (ss.map fun s => if coversV s y = true then s.way else 0).sum
theorem secs_steps {ss : List SideV} {y : Int} : secs (stepsV ss y 2) = allS ss y := by
  induction ss with
  | nil => rfl
  | cons s ss ih =>
    have e : allS (s :: ss) y = (if coversV s y = true then s.way else 0) + allS ss y := by unfold allS; simp
    rw [e, ← ih]
    unfold stepsV
    by_cases hc : coversV s y = true
    · rw [List.filter_cons, if_pos hc, List.map_cons, secs_cons, if_pos hc]
    · rw [List.filter_cons, if_neg hc, if_neg hc, Int.zero_add]
noncomputable def walkS (f : Pt → Pt → Int) : Pt → List Pt → Int
  | _, [] => 0
  | a, b :: l => f a b + walkS f b l
noncomputable def lastOf : Pt → List Pt → Pt
  | a, [] => a
  | _, b :: l => lastOf b l
theorem lastOf_eq (a : Pt) (l : List Pt) (d : Pt) : (a :: l).getLastD d = lastOf a l := by
  induction l generalizing a d with
  | nil => rfl
  | cons b l ih => rw [List.getLastD_cons, ih]; rfl
theorem zip_walk (f : Pt → Pt → Int) (a : Pt) (l : List Pt) : (((a :: l).zip l).map fun p => f p.1 p.2).sum = walkS f a l := by
  induction l generalizing a with
  | nil => rfl
  | cons b l ih => rw [List.zip_cons_cons, List.map_cons, List.sum_cons, ih]; rfl
theorem pairs_sum {f : Pt → Pt → Int} (hf : ∀ p, f p p = 0) (a : Pt) (l : List Pt) : ((contourPairs (a :: l)).map fun p => f p.1 p.2).sum = walkS f a l + f (lastOf a l) a := by
  unfold contourPairs
  rw [List.map_append, List.sum_append, List.drop_one, List.tail_cons, zip_walk]
  cases l with
  | nil => simp [walkS, lastOf, hf]
  | cons b l =>
    rw [if_pos (by simp), lastOf_eq]
    simp
noncomputable def legV (a b : Pt) (x y : Int) : Int :=
  if a.2 < b.2 then (if a.2 ≤ y ∧ y < b.2 ∧ (b.1 - a.1) * (y - a.2) ≤ (x - a.1) * (b.2 - a.2) then 1 else 0)
  else (if b.2 ≤ y ∧ y < a.2 ∧ (a.1 - b.1) * (y - b.2) ≤ (x - b.1) * (a.2 - b.2) then -1 else 0)
theorem leg_self (p : Pt) (x y : Int) : legV p p x y = 0 := by
  unfold legV
  rw [if_neg (Int.lt_irrefl _), if_neg (by omega)]
theorem covers_iff {s : SideV} {y : Int} : coversV s y = true ↔ s.y1 ≤ y ∧ y < s.y2 := by unfold coversV; simp
theorem place_iff {x1 y1 x2 y2 x y : Int} : x1 * (y2 - y1) + (x2 - x1) * (y - y1) ≤ x * (y2 - y1) ↔ (x2 - x1) * (y - y1) ≤ (x - x1) * (y2 - y1) := by
  rw [Int.sub_mul x x1 (y2 - y1)]
  (first | lia | omega)
theorem windS_cons {s : SideV} {ss : List SideV} {x y : Int} : windS (s :: ss) x y = (if coversV s y = true ∧ placeV s y ≤ x * (s.y2 - s.y1) then s.way else 0) + windS ss x y := by unfold windS; simp
theorem allS_cons {s : SideV} {ss : List SideV} {y : Int} : allS (s :: ss) y = (if coversV s y = true then s.way else 0) + allS ss y := by unfold allS; simp
theorem windS_append {a b : List SideV} {x y : Int} : windS (a ++ b) x y = windS a x y + windS b x y := by unfold windS; rw [List.map_append, List.sum_append]
theorem allS_append {a b : List SideV} {y : Int} : allS (a ++ b) y = allS a y + allS b y := by unfold allS; rw [List.map_append, List.sum_append]
theorem windS_pairs (ps : List (Pt × Pt)) (x y : Int) : windS (ps.filterMap fun p => sideV p.1 p.2) x y = (ps.map fun p => legV p.1 p.2 x y).sum := by
  induction ps with
  | nil => rfl
  | cons p ps ih =>
    rw [List.map_cons, List.sum_cons, ← ih]
    obtain ⟨a, b⟩ := p
    by_cases h1 : a.2 = b.2
    · rw [List.filterMap_cons_none (by unfold sideV; rw [if_pos h1])]
      dsimp only
      unfold legV
      rw [if_neg (by omega), if_neg (by omega), Int.zero_add]
    · by_cases h2 : a.2 < b.2
      · rw [List.filterMap_cons_some (b := ⟨a.1, a.2, b.1, b.2, 1⟩) (by unfold sideV; rw [if_neg h1, if_pos h2]), windS_cons]
        congr 1
        unfold legV
        dsimp only
        rw [if_pos h2]
        simp only [covers_iff, placeV, place_iff, and_assoc]
      · rw [List.filterMap_cons_some (b := ⟨b.1, b.2, a.1, a.2, -1⟩) (by unfold sideV; rw [if_neg h1, if_neg h2]), windS_cons]
        congr 1
        unfold legV
        dsimp only
        rw [if_neg h2]
        simp only [covers_iff, placeV, place_iff, and_assoc]
noncomputable def upP (y : Int) (p : Pt) : Int := if y < p.2 then 1 else 0
theorem allS_pairs (ps : List (Pt × Pt)) (y : Int) : allS (ps.filterMap fun p => sideV p.1 p.2) y = (ps.map fun p => upP y p.2 - upP y p.1).sum := by
  induction ps with
  | nil => rfl
  | cons p ps ih =>
    rw [List.map_cons, List.sum_cons, ← ih]
    obtain ⟨a, b⟩ := p
    by_cases h1 : a.2 = b.2
    · rw [List.filterMap_cons_none (by unfold sideV; rw [if_pos h1])]
      dsimp only
      unfold upP
      rw [h1]
      (first | lia | omega)
    · by_cases h2 : a.2 < b.2
      · rw [List.filterMap_cons_some (b := ⟨a.1, a.2, b.1, b.2, 1⟩) (by unfold sideV; rw [if_neg h1, if_pos h2]), allS_cons]
        congr 1
        unfold upP
        simp only [covers_iff]
        split <;> split <;> split <;> (first | lia | omega)
      · rw [List.filterMap_cons_some (b := ⟨b.1, b.2, a.1, a.2, -1⟩) (by unfold sideV; rw [if_neg h1, if_neg h2]), allS_cons]
        congr 1
        unfold upP
        simp only [covers_iff]
        split <;> split <;> split <;> (first | lia | omega)
theorem walk_up (y : Int) (a : Pt) (l : List Pt) : walkS (fun a b => upP y b - upP y a) a l = upP y (lastOf a l) - upP y a := by
  induction l generalizing a with
  | nil => simp [walkS, lastOf]
  | cons b l ih =>
    show upP y b - upP y a + walkS _ b l = upP y (lastOf b l) - upP y a
    rw [ih]; (first | lia | omega)
theorem contour_closed (pts : List Pt) (y : Int) : allS (contourSides pts) y = 0 := by
  cases pts with
  | nil => rfl
  | cons a l =>
    unfold contourSides
    rw [allS_pairs, pairs_sum (f := fun a b => upP y b - upP y a) (fun p => by (first | lia | omega)), walk_up]
    (first | lia | omega)
theorem sides_closed (cs : List (List Pt)) (y : Int) : allS (sidesOf cs) y = 0 := by
  unfold sidesOf
  induction cs with
  | nil => rfl
  | cons x cs ih => rw [List.flatMap_cons, allS_append, ih, contour_closed]; rfl
noncomputable def lawWoundC (pts : List Pt) (x y : Int) : Int := ((List.range pts.length).map fun i => legV (pts.getD i (0, 0)) (pts.getD ((i + 1) % pts.length) (0, 0)) x y).sum
theorem range_walk (f : Pt → Pt → Int) (pts : List Pt) (k : Nat) (a : Pt) (l : List Pt) (h : pts.drop k = a :: l) : ((List.range l.length).map fun i => f (pts.getD (k + i) (0, 0)) (pts.getD (k + i + 1) (0, 0))).sum = walkS f a l ∧ pts.getD (k + l.length) (0, 0) = lastOf a l := by
  induction l generalizing k a with
  | nil =>
    refine ⟨rfl, ?_⟩
    have h0 : pts[k]? = some a := by
      have := List.getElem?_drop (xs := pts) (i := k) (j := 0)
      rw [h] at this; simpa using this.symm
    simp [List.getD, h0, lastOf]
  | cons b l ih =>
    have h1 : pts.drop (k + 1) = b :: l := by rw [← List.drop_drop, h]; rfl
    obtain ⟨e1, e2⟩ := ih (k + 1) b h1
    have h0 : pts[k]? = some a := by
      have := List.getElem?_drop (xs := pts) (i := k) (j := 0)
      rw [h] at this; simpa using this.symm
    have h2 : pts[k + 1]? = some b := by
      have := List.getElem?_drop (xs := pts) (i := k + 1) (j := 0)
      rw [h1] at this; simpa using this.symm
    constructor
    · rw [List.length_cons, List.range_succ_eq_map, List.map_cons, List.sum_cons, List.map_map]
      show _ = f a b + walkS f b l
      rw [← e1]
      have : f (pts.getD (k + 0) (0, 0)) (pts.getD (k + 0 + 1) (0, 0)) = f a b := by simp [List.getD, h0, h2]
      rw [this]
      congr 3
      funext i
      simp only [Function.comp]
      rw [show k + (i + 1) = k + 1 + i by (first | lia | omega)]
    · show _ = lastOf b l
      rw [← e2, List.length_cons]
      congr 1
      (first | lia | omega)
theorem law_wound_contour (pts : List Pt) (x y : Int) : lawWoundC pts x y = windS (contourSides pts) x y := by
  cases pts with
  | nil => rfl
  | cons a l =>
    unfold contourSides
    rw [windS_pairs, pairs_sum (f := fun a b => legV a b x y) fun p => leg_self p x y]
    obtain ⟨e1, e2⟩ := range_walk (fun a b => legV a b x y) (a :: l) 0 a l rfl
    unfold lawWoundC
    rw [List.length_cons, List.range_succ, List.map_append, List.sum_append, ← e1]
    congr 1
    · congr 1
      apply List.map_congr_left
      intro i hi
      have := List.mem_range.mp hi
      rw [Nat.mod_eq_of_lt (by (first | lia | omega)), Nat.zero_add]
    · rw [List.map_cons, List.map_nil, List.sum_cons, List.sum_nil, Int.add_zero, ← e2, Nat.zero_add, Nat.mod_self]
      rfl
theorem steps_between {ss : List SideV} {lo hi y step : Int} (h1 : lo ≤ y) (h2 : y < hi) : stepsV (betweenV ss lo hi) y step = stepsV ss y step := by
  unfold stepsV betweenV
  rw [List.filter_filter]
  congr 1
  apply List.filter_congr
  intro s _
  by_cases h : coversV s y = true
  · have := covers_iff.mp h
    rw [h]
    have e1 : s.y1 < hi := by (first | lia | omega)
    have e2 : lo < s.y2 := by (first | lia | omega)
    simp [e1, e2]
  · have : coversV s y = false := by simpa using h
    rw [this]; rfl
theorem side_at {a b : Pt} {s : SideV} (h : sideV a b = some s) : (s = ⟨a.1, a.2, b.1, b.2, 1⟩ ∧ a.2 < b.2) ∨ (s = ⟨b.1, b.2, a.1, a.2, -1⟩ ∧ b.2 < a.2) := by
  unfold sideV at h
  split at h
  · cases h
  · split at h
    · cases h; exact .inl ⟨rfl, by omega⟩
    · cases h; exact .inr ⟨rfl, by omega⟩
theorem pairs_at {pts : List Pt} {p : Pt × Pt} (h : p ∈ contourPairs pts) : p.1 ∈ pts ∧ p.2 ∈ pts := by
  unfold contourPairs at h
  rcases List.mem_append.mp h with h | h
  · obtain ⟨a, b⟩ := p
    have := List.of_mem_zip h
    exact ⟨this.1, List.mem_of_mem_drop this.2⟩
  · split at h
    · rw [List.mem_singleton] at h
      subst h
      cases pts with
      | nil => simp at *
      | cons x l =>
        refine ⟨?_, List.mem_cons_self⟩
        dsimp only
        rw [List.getLastD_eq_getLast?, List.getLast?_eq_some_getLast (by simp)]
        exact List.getLast_mem _
    · cases h
structure SideAt (fl : List Pt) (s : SideV) : Prop where
  up : s.y1 < s.y2
  way : s.way = 1 ∨ s.way = -1
  p : (s.x1, s.y1) ∈ fl
  q : (s.x2, s.y2) ∈ fl
theorem sides_at {cs : List (List Pt)} {s : SideV} (h : s ∈ sidesOf cs) : SideAt cs.flatten s := by
  unfold sidesOf at h
  obtain ⟨pts, hp, h⟩ := List.mem_flatMap.mp h
  unfold contourSides at h
  obtain ⟨p, hp', h⟩ := List.mem_filterMap.mp h
  have ha := pairs_at hp'
  have h1 : p.1 ∈ cs.flatten := List.mem_flatten.mpr ⟨pts, hp, ha.1⟩
  have h2 : p.2 ∈ cs.flatten := List.mem_flatten.mpr ⟨pts, hp, ha.2⟩
  rcases side_at h with ⟨rfl, hl⟩ | ⟨rfl, hl⟩
  · exact ⟨hl, .inl rfl, h1, h2⟩
  · exact ⟨hl, .inr rfl, h2, h1⟩
theorem conts_sm {cs : List (List Pt)} (hc : Conts cs) {p : Pt} (h : p ∈ cs.flatten) : p.1.natAbs < 2 ^ 10 ∧ p.2.natAbs < 2 ^ 10 := by
  obtain ⟨pts, h1, h2⟩ := List.mem_flatten.mp h
  exact hc.sm pts h1 p h2
theorem sides_ok {cs : List (List Pt)} (hc : Conts cs) : ∀ s ∈ sidesOf cs, SideOk s := fun s hs => by
  have h := sides_at hs
  have h1 := conts_sm hc h.p
  have h2 := conts_sm hc h.q
  dsimp only at h1 h2
  exact ⟨h.up, by (first | lia | omega), by (first | lia | omega), h.way⟩
noncomputable def sampleV (cs : List (List Pt)) (e : Bool) (x y : Int) : Int := b01 (insideV (windS (sidesOf cs) x y) (ruleS e))
noncomputable def manyV (cs : List (List Pt)) (e : Bool) (x y : Int) : Int := sampleV cs e (4 * x + 1) (4 * y + 1) + sampleV cs e (4 * x + 3) (4 * y + 1) + sampleV cs e (4 * x + 1) (4 * y + 3) + sampleV cs e (4 * x + 3) (4 * y + 3)
theorem b01_range (b : Bool) : 0 ≤ b01 b ∧ b01 b ≤ 1 := by unfold b01; split <;> (first | lia | omega)
theorem many_range {cs : List (List Pt)} {e : Bool} {x y : Int} : 0 ≤ manyV cs e x y ∧ manyV cs e x y ≤ 4 := by
  unfold manyV sampleV
  have h1 := b01_range (insideV (windS (sidesOf cs) (4 * x + 1) (4 * y + 1)) (ruleS e))
  have h2 := b01_range (insideV (windS (sidesOf cs) (4 * x + 3) (4 * y + 1)) (ruleS e))
  have h3 := b01_range (insideV (windS (sidesOf cs) (4 * x + 1) (4 * y + 3)) (ruleS e))
  have h4 := b01_range (insideV (windS (sidesOf cs) (4 * x + 3) (4 * y + 3)) (ruleS e))
  omega
theorem cover_many {cs : List (List Pt)} {e : Bool} {t ht x y : Int} {S : Int → List (Int × Int)} (hS : ∀ r, 2 * t ≤ r → r < 2 * (t + ht) → SpanRow (betweenV (sidesOf cs) (t * 4) ((t + ht) * 4)) e r (S r)) (h1 : t ≤ y) (h2 : y < t + ht) :
    cover (S (2 * y)) x + cover (S (2 * y + 1)) x = manyV cs e x y := by
  have row : ∀ r, 2 * t ≤ r → r < 2 * (t + ht) → cover (S r) x = sampleV cs e (4 * x + 1) (2 * r + 1) + sampleV cs e (4 * x + 3) (2 * r + 1) := by
    intro r hr hr'
    have hw : ∀ s ∈ betweenV (sidesOf cs) (t * 4) ((t + ht) * 4), s.way = 1 ∨ s.way = -1 := fun s hs => (sides_at (List.mem_filter.mp hs).1).way
    have e1 : stepsV (betweenV (sidesOf cs) (t * 4) ((t + ht) * 4)) (r * 2 + 1) 2 = stepsV (sidesOf cs) (r * 2 + 1) 2 := steps_between (by (first | lia | omega)) (by (first | lia | omega))
    rw [row_cover hw (hS r hr hr') (by rw [e1, secs_steps, sides_closed]), e1, upTo_steps fun s hs => (sides_at hs).up, upTo_steps fun s hs => (sides_at hs).up]
    unfold sampleV
    rw [show 2 * (2 * x) + 1 = 4 * x + 1 by (first | lia | omega), show 2 * (2 * x + 1) + 1 = 4 * x + 3 by (first | lia | omega), show r * 2 + 1 = 2 * r + 1 by (first | lia | omega)]
  rw [row (2 * y) (by (first | lia | omega)) (by (first | lia | omega)), row (2 * y + 1) (by (first | lia | omega)) (by (first | lia | omega))]
  unfold manyV
  rw [show 2 * (2 * y) + 1 = 4 * y + 1 by (first | lia | omega), show 2 * (2 * y + 1) + 1 = 4 * y + 3 by (first | lia | omega)]
  (first | lia | omega)
theorem wind_zero {ss : List SideV} {x y : Int} (h : ∀ s ∈ ss, ¬ (coversV s y = true ∧ placeV s y ≤ x * (s.y2 - s.y1))) : windS ss x y = 0 := by
  induction ss with
  | nil => rfl
  | cons s ss ih => rw [windS_cons, if_neg (h s List.mem_cons_self), ih fun q hq => h q (List.mem_cons_of_mem _ hq)]; rfl
theorem wind_all {ss : List SideV} {x y : Int} (h : ∀ s ∈ ss, coversV s y = true → placeV s y ≤ x * (s.y2 - s.y1)) : windS ss x y = allS ss y := by
  induction ss with
  | nil => rfl
  | cons s ss ih =>
    rw [windS_cons, allS_cons, ih fun q hq => h q (List.mem_cons_of_mem _ hq)]
    congr 1
    by_cases hc : coversV s y = true
    · rw [if_pos ⟨hc, h s List.mem_cons_self hc⟩, if_pos hc]
    · rw [if_neg (fun a => hc a.1), if_neg hc]
theorem wind_out {cs : List (List Pt)} {x y : Int} (h : (∀ p ∈ cs.flatten, x < p.1) ∨ (∀ p ∈ cs.flatten, p.1 ≤ x) ∨ (∀ p ∈ cs.flatten, y < p.2) ∨ (∀ p ∈ cs.flatten, p.2 ≤ y)) : windS (sidesOf cs) x y = 0 := by
  rcases h with h | h | h | h
  · refine wind_zero fun s hs ⟨hc, hp⟩ => ?_
    have sa := sides_at hs
    have hc := covers_iff.mp hc
    have h1 := h _ sa.p
    have h2 := h _ sa.q
    dsimp only at h1 h2
    unfold placeV at hp
    rw [place_iff] at hp
    have k1 : 0 < (s.x1 - x) * (s.y2 - y) := Int.mul_pos (by (first | lia | omega)) (by (first | lia | omega))
    have k2 : 0 ≤ (s.x2 - x) * (y - s.y1) := Int.mul_nonneg (by (first | lia | omega)) (by (first | lia | omega))
    have e1 : (s.x2 - s.x1) * (y - s.y1) = (s.x2 - x) * (y - s.y1) + (x - s.x1) * (y - s.y1) := by rw [← Int.add_mul]; congr 1; (first | lia | omega)
    have e2 : (x - s.x1) * (s.y2 - s.y1) = (x - s.x1) * (s.y2 - y) + (x - s.x1) * (y - s.y1) := by rw [← Int.mul_add]; congr 1; (first | lia | omega)
    have e3 : (s.x1 - x) * (s.y2 - y) = -((x - s.x1) * (s.y2 - y)) := by rw [← Int.neg_mul]; congr 1; (first | lia | omega)
    (first | lia | omega)
  · rw [wind_all fun s hs hc => ?_, sides_closed]
    have sa := sides_at hs
    have hc := covers_iff.mp hc
    have h1 := h _ sa.p
    have h2 := h _ sa.q
    dsimp only at h1 h2
    unfold placeV
    rw [place_iff]
    have k1 : 0 ≤ (x - s.x1) * (s.y2 - y) := Int.mul_nonneg (by (first | lia | omega)) (by (first | lia | omega))
    have k2 : 0 ≤ (x - s.x2) * (y - s.y1) := Int.mul_nonneg (by (first | lia | omega)) (by (first | lia | omega))
    have e1 : (s.x2 - s.x1) * (y - s.y1) = (s.x2 - x) * (y - s.y1) + (x - s.x1) * (y - s.y1) := by rw [← Int.add_mul]; congr 1; (first | lia | omega)
    have e2 : (x - s.x1) * (s.y2 - s.y1) = (x - s.x1) * (s.y2 - y) + (x - s.x1) * (y - s.y1) := by rw [← Int.mul_add]; congr 1; (first | lia | omega)
    have e3 : (x - s.x2) * (y - s.y1) = -((s.x2 - x) * (y - s.y1)) := by rw [← Int.neg_mul]; congr 1; (first | lia | omega)
    (first | lia | omega)
  · refine wind_zero fun s hs ⟨hc, _⟩ => ?_
    have sa := sides_at hs
    have hc := covers_iff.mp hc
    have h1 := h _ sa.p
    dsimp only at h1
    (first | lia | omega)
  · refine wind_zero fun s hs ⟨hc, _⟩ => ?_
    have sa := sides_at hs
    have hc := covers_iff.mp hc
    have h1 := h _ sa.q
    dsimp only at h1
    (first | lia | omega)
theorem sample_out {cs : List (List Pt)} {e : Bool} {x y : Int} (h : (∀ p ∈ cs.flatten, x < p.1) ∨ (∀ p ∈ cs.flatten, p.1 ≤ x) ∨ (∀ p ∈ cs.flatten, y < p.2) ∨ (∀ p ∈ cs.flatten, p.2 ≤ y)) : sampleV cs e x y = 0 := by
  unfold sampleV
  rw [wind_out h, inside_zero]; rfl
theorem top_ge : ∀ {l : List Int} {x : Int}, x ∈ l → x ≤ topOf l
  | [a], x, h => by simp at h; subst h; exact Int.le_refl _
  | a :: b :: r, x, h => by
    simp only [topOf]
    rcases List.mem_cons.mp h with rfl | h
    · omega
    · have := top_ge h; omega
theorem low_le : ∀ {l : List Int} {x : Int}, x ∈ l → lowOf l ≤ x
  | [a], x, h => by simp at h; subst h; exact Int.le_refl _
  | a :: b :: r, x, h => by
    simp only [lowOf]
    rcases List.mem_cons.mp h with rfl | h
    · omega
    · have := low_le h; omega
theorem out_dim {l wd x x1 x2 u : Int} (h1 : l ≤ x) (h2 : x < l + wd) (hu : u = 4 * x + 1 ∨ u = 4 * x + 3) : (max l (x1 / 4) ≤ x ∧ x < min (l + wd) (x1 / 4 + (-(-x2 / 4) - x1 / 4))) ∨ u < x1 ∨ x2 ≤ u := by
  by_cases h3 : u < x1
  · exact .inr (.inl h3)
  · by_cases h4 : x2 ≤ u
    · exact .inr (.inr h4)
    · exact .inl ⟨Int.max_le.mpr ⟨h1, by omega⟩, Int.lt_min.mpr ⟨h2, by omega⟩⟩
theorem add_sub_lt {a b x : Int} (h : x < b) : x < a + (b - a) := by rw [Int.add_comm, Int.sub_add_cancel]; exact h
theorem many_out {cs : List (List Pt)} {e : Bool} {l t wd ht x y : Int} (hx : l ≤ x) (hx' : x < l + wd) (hy : t ≤ y) (hy' : y < t + ht)
    (h : ∀ q, (tileV (some (boxV cs))).bind (commonV (l, t, wd, ht)) = some q → ¬ (q.1 ≤ x ∧ x < q.1 + q.2.2.1 ∧ q.2.1 ≤ y ∧ y < q.2.1 + q.2.2.2)) : manyV cs e x y = 0 := by
  have b1 : ∀ p ∈ cs.flatten, (boxV cs).1 ≤ p.1 ∧ p.1 ≤ (boxV cs).2.2.1 ∧ (boxV cs).2.1 ≤ p.2 ∧ p.2 ≤ (boxV cs).2.2.2 := fun p hp =>
    ⟨low_le (List.mem_map_of_mem hp), top_ge (List.mem_map_of_mem (f := (·.1)) hp), low_le (List.mem_map_of_mem hp), top_ge (List.mem_map_of_mem (f := (·.2)) hp)⟩
  generalize boxV cs = b at h b1
  obtain ⟨x1, y1, x2, y2⟩ := b
  dsimp only at b1
  have all : ∀ u v : Int, (u = 4 * x + 1 ∨ u = 4 * x + 3) → (v = 4 * y + 1 ∨ v = 4 * y + 3) → sampleV cs e u v = 0 := by
    intro u v hu hv
    have key : u < x1 ∨ x2 ≤ u ∨ v < y1 ∨ y2 ≤ v := by
      rcases out_dim (x1 := x1) (x2 := x2) hx hx' hu with a | a | a
      · rcases out_dim (x1 := y1) (x2 := y2) hy hy' hv with b | b | b
        · by_cases hb : x2 ≤ x1 ∨ y2 ≤ y1
          · rcases hb with hb | hb
            · exact (Classical.em (u < x1)).imp id fun z => .inl (Int.le_trans hb (Int.not_lt.mp z))
            · exact .inr (.inr ((Classical.em (v < y1)).imp id fun z => Int.le_trans hb (Int.not_lt.mp z)))
          · have et : tileV (some (x1, y1, x2, y2)) = some (x1 / 4, y1 / 4, -(-x2 / 4) - x1 / 4, -(-y2 / 4) - y1 / 4) := by
              simp only [tileV]; rw [if_neg hb]
            rw [et] at h
            simp only [Option.bind_some, commonV] at h
            split at h
            · rename_i hc
              exact hc.elim (fun z => absurd (Int.lt_of_le_of_lt a.1 a.2) (Int.not_lt.mpr z)) fun z => absurd (Int.lt_of_le_of_lt b.1 b.2) (Int.not_lt.mpr z)
            · exact absurd ⟨a.1, add_sub_lt a.2, b.1, add_sub_lt b.2⟩ (h _ rfl)
        · exact .inr (.inr (.inl b))
        · exact .inr (.inr (.inr b))
      · exact .inl a
      · exact .inr (.inl a)
    refine sample_out ?_
    rcases key with k | k | k | k
    · exact .inl fun p hp => by have := b1 p hp; (first | lia | omega)
    · exact .inr (.inl fun p hp => by have := b1 p hp; (first | lia | omega))
    · exact .inr (.inr (.inl fun p hp => by have := b1 p hp; (first | lia | omega)))
    · exact .inr (.inr (.inr fun p hp => by have := b1 p hp; (first | lia | omega)))
  unfold manyV
  rw [all _ _ (.inl rfl) (.inl rfl), all _ _ (.inr rfl) (.inl rfl), all _ _ (.inl rfl) (.inr rfl), all _ _ (.inr rfl) (.inr rfl)]; rfl
theorem weighted_ediv (n a : Int) : weightedV n a = (2 * (n * a) + 255) / 510 := by
  unfold weightedV
  rw [Int.fdiv_eq_ediv_of_nonneg _ (by decide), Int.mul_assoc]; rfl
theorem weighted_range {n a : Int} (h1 : 0 ≤ n) (h2 : n ≤ 255) (h3 : 0 ≤ a) (h4 : a ≤ 255) : 0 ≤ weightedV n a ∧ weightedV n a ≤ 255 := by
  rw [weighted_ediv]
  have k1 : 0 ≤ n * a := Int.mul_nonneg h1 h3
  have k2 : n * a ≤ 255 * 255 := Int.mul_le_mul h2 h4 h3 (by decide)
  (first | lia | omega)
theorem weighted_full (n : Int) : weightedV n 255 = n := by rw [weighted_ediv]; (first | lia | omega)
theorem weighted_zero (n : Int) : weightedV n 0 = 0 := by rw [weighted_ediv]; (first | lia | omega)
theorem zero_weighted (n : Int) : weightedV 0 n = 0 := by rw [weighted_ediv]; (first | lia | omega)
theorem mixed_eq (a b r : Int) : mixedV a 255 b r = a + weightedV b r := by
  rw [weighted_ediv]
  unfold mixedV
  rw [Int.fdiv_eq_ediv_of_nonneg _ (by decide)]
  (first | lia | omega)
noncomputable def shadeV (many : Int) : Int := (2 * 255 * many + 4).fdiv 8
theorem shade_eq (many : Int) : roundedV (255 * many) 4 = shadeV many := by
  unfold roundedV shadeV
  rw [Int.fdiv_eq_ediv_of_nonneg _ (by decide), Int.fdiv_eq_ediv_of_nonneg _ (by decide)]
  (first | lia | omega)
theorem shade_range {many : Int} (h : 0 ≤ many) (h' : many ≤ 4) : 0 ≤ shadeV many ∧ shadeV many ≤ 255 := by
  unfold shadeV
  rw [Int.fdiv_eq_ediv_of_nonneg _ (by decide)]
  (first | lia | omega)
noncomputable def thinV (col : Col) (al : Int) : Col := (weightedV col.1 al, weightedV col.2.1 al, weightedV col.2.2.1 al, weightedV col.2.2.2 al)
noncomputable def layV (thin b : Col) : Col := (thin.1 + weightedV b.1 (255 - thin.2.2.2), thin.2.1 + weightedV b.2.1 (255 - thin.2.2.2), thin.2.2.1 + weightedV b.2.2.1 (255 - thin.2.2.2), thin.2.2.2 + weightedV b.2.2.2 (255 - thin.2.2.2))
noncomputable def alphaV (many op let_ : Int) : Int := weightedV (weightedV (shadeV many) op) let_
noncomputable def dotV (many op let_ : Int) (col b : Col) : Col := layV (thinV col (alphaV many op let_)) b
structure ColOk (a : Col) : Prop where
  c0 : 0 ≤ a.1 ∧ a.1 ≤ 255
  c1 : 0 ≤ a.2.1 ∧ a.2.1 ≤ 255
  c2 : 0 ≤ a.2.2.1 ∧ a.2.2.1 ≤ 255
  c3 : 0 ≤ a.2.2.2 ∧ a.2.2.2 ≤ 255
theorem thinned_thin (col : Col) (al : Int) : thinnedV col al = thinV col al := by
  unfold thinnedV
  split
  · rename_i h
    subst h
    unfold thinV
    simp only [weighted_full]
  · rfl
theorem over_lay (a b : Col) : overV a b = layV a b := by
  unfold overV layV
  simp only [mixed_eq]
theorem lay_zero (col b : Col) : layV (thinV col 0) b = b := by
  unfold layV thinV
  simp only [weighted_zero, Int.sub_zero, weighted_full, Int.zero_add]
theorem share_alpha {many op : Int} {k : Option ClipV} {x y : Int} : shareV (roundedV (255 * many) 4) op k x y = alphaV many op (letV k x y) := by
  unfold shareV alphaV
  rw [shade_eq]
  cases k with
  | none =>
    rw [if_pos (show (none : Option ClipV).isNone = true ∨ weightedV (shadeV many) op = 0 from Or.inl rfl)]
    show _ = weightedV _ 255
    rw [weighted_full]
  | some k =>
    by_cases h : weightedV (shadeV many) op = 0
    · rw [if_pos (Or.inr h), h, zero_weighted]
    · rw [if_neg (show ¬ ((some k).isNone = true ∨ weightedV (shadeV many) op = 0) from fun g => g.elim (fun g => by cases g) h)]
theorem alpha_range {many op let_ : Int} (h : 0 ≤ many) (h' : many ≤ 4) (h1 : 0 ≤ op) (h2 : op ≤ 255) (h3 : 0 ≤ let_) (h4 : let_ ≤ 255) : 0 ≤ alphaV many op let_ ∧ alphaV many op let_ ≤ 255 := by
  have a := shade_range h h'
  have b := weighted_range a.1 a.2 h1 h2
  exact weighted_range b.1 b.2 h3 h4
theorem thin_ok {col : Col} {al : Int} (hc : ColOk col) (h1 : 0 ≤ al) (h2 : al ≤ 255) : ColOk (thinV col al) :=
  ⟨weighted_range hc.c0.1 hc.c0.2 h1 h2, weighted_range hc.c1.1 hc.c1.2 h1 h2, weighted_range hc.c2.1 hc.c2.2 h1 h2, weighted_range hc.c3.1 hc.c3.2 h1 h2⟩
theorem dot_eq {many op let_ : Int} {col b : Col} (h : 0 ≤ alphaV many op let_) : (if 0 < alphaV many op let_ then overV (thinnedV col (alphaV many op let_)) b else b) = dotV many op let_ col b := by
  unfold dotV
  split
  · rw [thinned_thin, over_lay]
  · rw [show alphaV many op let_ = 0 by (first | lia | omega), lay_zero]
theorem dot_zero {op let_ : Int} {col b : Col} : dotV 0 op let_ col b = b := by
  unfold dotV alphaV
  rw [show shadeV 0 = 0 from rfl, zero_weighted, zero_weighted, lay_zero]
theorem dot_no {many let_ : Int} {col b : Col} : dotV many 0 let_ col b = b := by
  unfold dotV alphaV
  rw [weighted_zero, zero_weighted, lay_zero]
theorem gridS_old {σ : Sto} {l t wd : Int} {rows : List Addr} {g : Int → Int → PV} (hf : ∀ r ∈ rows, σ r = none) {r : Addr} {b : Box} (h : σ r = some b) : gridS σ l t wd rows g r = some b := by
  unfold gridS
  rw [rowsAt_not (fun hm => by rw [hf r hm] at h; cases h), h]
theorem upd_old {σ : Sto} {a : Addr} {b' : Box} (hf : σ a = none) {r : Addr} {b : Box} (h : σ r = some b) : σ.upd a b' r = some b := by
  rw [upd_ne (fun e => by subst e; rw [hf] at h; cases h), h]
theorem ClipIn.mono {σ σ' : Sto} {k : Option ClipV} (h : ClipIn σ k) (hs : ∀ r b, σ r = some b → σ' r = some b) : ClipIn σ' k := by
  cases k with
  | none => exact h
  | some k =>
    obtain ⟨h1, h2, h3, h4⟩ := h
    refine ⟨fun y hy hy' => ?_, h2, h3, h4⟩
    obtain ⟨r, hr, e⟩ := h1 y hy hy'
    exact ⟨r, hr, hs _ _ e⟩
noncomputable def gPart (q : Col) (D : Int → Int → Col → Col) (g : Int → Int → Col) (k j : Nat) (x y : Int) : Col :=
  if q.1 ≤ x ∧ x < q.1 + q.2.2.1 ∧ q.2.1 ≤ y ∧ (y < q.2.1 + k ∨ (y = q.2.1 + k ∧ x < q.1 + j)) then D x y (g x y) else g x y
theorem of_succ (j : Nat) : (j : Int) < ((j + 1 : Nat) : Int) := Int.ofNat_lt.mpr (Nat.lt_succ_self j)
theorem lt_succ {a x : Int} {j : Nat} (h : x < a + ((j + 1 : Nat) : Int)) (n : x ≠ a + j) : x < a + j := by
  rw [Int.natCast_succ, ← Int.add_assoc] at h
  exact Int.lt_iff_le_and_ne.mpr ⟨Int.lt_add_one_iff.mp h, n⟩
theorem gPart_put {q : Col} {D : Int → Int → Col → Col} {g : Int → Int → Col} {k j : Nat} (hj : (j : Int) < q.2.2.1) : (fun x' y' => if x' = q.1 + j ∧ y' = q.2.1 + k then colP (D (q.1 + j) (q.2.1 + k) (g (q.1 + j) (q.2.1 + k))) else colP (gPart q D g k j x' y')) = fun x' y' => colP (gPart q D g k (j + 1) x' y') := by
  funext x y
  unfold gPart
  by_cases h : x = q.1 + j ∧ y = q.2.1 + k
  · obtain ⟨rfl, rfl⟩ := h
    rw [if_pos ⟨rfl, rfl⟩, if_pos ⟨Int.le_add_of_nonneg_right (Int.natCast_nonneg j), Int.add_lt_add_left hj _, Int.le_add_of_nonneg_right (Int.natCast_nonneg k), .inr ⟨rfl, Int.add_lt_add_left (of_succ j) _⟩⟩]
  · rw [if_neg h]
    by_cases h2 : q.1 ≤ x ∧ x < q.1 + q.2.2.1 ∧ q.2.1 ≤ y ∧ (y < q.2.1 + k ∨ (y = q.2.1 + k ∧ x < q.1 + j))
    · rw [if_pos h2, if_pos ⟨h2.1, h2.2.1, h2.2.2.1, h2.2.2.2.imp id fun z => ⟨z.1, Int.lt_trans z.2 (Int.add_lt_add_left (of_succ j) _)⟩⟩]
    · rw [if_neg h2, if_neg fun z => h2 ⟨z.1, z.2.1, z.2.2.1, z.2.2.2.imp id fun u => ⟨u.1, lt_succ u.2 fun e => h ⟨e, u.1⟩⟩⟩]
theorem gPart_skip {q : Col} {D : Int → Int → Col → Col} {g : Int → Int → Col} {k j : Nat} (hj : (j : Int) < q.2.2.1) (hd : D (q.1 + j) (q.2.1 + k) (g (q.1 + j) (q.2.1 + k)) = g (q.1 + j) (q.2.1 + k)) : (fun x' y' => colP (gPart q D g k j x' y')) = fun x' y' => colP (gPart q D g k (j + 1) x' y') := by
  rw [← gPart_put hj]
  funext x y
  by_cases h : x = q.1 + j ∧ y = q.2.1 + k
  · obtain ⟨rfl, rfl⟩ := h
    rw [if_pos ⟨rfl, rfl⟩, hd]
    unfold gPart
    rw [if_neg (by (first | lia | omega))]
  · rw [if_neg h]
theorem gPart_here {q : Col} {D : Int → Int → Col → Col} {g : Int → Int → Col} {k j : Nat} : gPart q D g k j (q.1 + j) (q.2.1 + k) = g (q.1 + j) (q.2.1 + k) := by
  unfold gPart
  rw [if_neg (by (first | lia | omega))]
theorem gPart_row {q : Col} {D : Int → Int → Col → Col} {g : Int → Int → Col} {k j : Nat} (hj : (j : Int) = q.2.2.1) : gPart q D g k j = gPart q D g (k + 1) 0 := by
  funext x y
  unfold gPart
  rw [hj]
  by_cases h2 : q.1 ≤ x ∧ x < q.1 + q.2.2.1 ∧ q.2.1 ≤ y ∧ (y < q.2.1 + k ∨ (y = q.2.1 + k ∧ x < q.1 + q.2.2.1))
  · rw [if_pos h2, if_pos ⟨h2.1, h2.2.1, h2.2.2.1, .inl (h2.2.2.2.elim (fun z => Int.lt_trans z (Int.add_lt_add_left (of_succ k) _)) fun z => z.1 ▸ Int.add_lt_add_left (of_succ k) _)⟩]
  · rw [if_neg h2, if_neg fun z => h2 ⟨z.1, z.2.1, z.2.2.1, z.2.2.2.elim (fun u => (Classical.em (y = q.2.1 + k)).elim (fun e => .inr ⟨e, z.2.1⟩) fun e => .inl (lt_succ u e)) fun u => absurd z.1 (Int.not_le.mpr (by rw [show ((0 : Nat) : Int) = 0 from rfl, Int.add_zero] at u; exact u.2))⟩]
theorem gPart_zero {q : Col} {D : Int → Int → Col → Col} {g : Int → Int → Col} : gPart q D g 0 0 = g := by
  funext x y
  unfold gPart
  rw [if_neg (by omega)]
theorem gridS_sub {σ σ' : Sto} {l t wd : Int} {rows : List Addr} {g : Int → Int → PV} (h : Sub σ σ') : Sub (gridS σ l t wd rows g) (gridS σ' l t wd rows g) := fun r b e => by
  unfold gridS rowsAt at *
  split at e
  · rename_i hm; rw [if_pos hm]; exact e
  · rename_i hm; rw [if_neg hm]; exact h _ _ e
section
variable {prog : Program} {w : World} {c : Cx prog w (heapK w.params)} {n : Nat} {σ : Sto} {P : Params}
theorem sub_top {a b c : Int} (h : b ≤ c) : a + (b - a) ≤ c := by rw [Int.add_comm, Int.sub_add_cancel]; exact h
theorem common_in {a b q : Col} (h : commonV a b = some q) : a.1 ≤ q.1 ∧ q.1 + q.2.2.1 ≤ a.1 + a.2.2.1 ∧ a.2.1 ≤ q.2.1 ∧ q.2.1 + q.2.2.2 ≤ a.2.1 + a.2.2.2 ∧ 0 < q.2.2.1 ∧ 0 < q.2.2.2 := by
  unfold commonV at h
  split at h
  · cases h
  · rename_i hc
    cases h
    exact ⟨Int.le_max_left .., sub_top (Int.min_le_left ..), Int.le_max_left .., sub_top (Int.min_le_left ..), Int.sub_pos_of_lt (Int.not_le.mp fun z => hc (.inl z)), Int.sub_pos_of_lt (Int.not_le.mp fun z => hc (.inr z))⟩
theorem optC_none {q : Option Col} : (optC q).isNone = q.isNone := by cases q <;> rfl
noncomputable def opP (wd : Str) (cs : List (List Pt)) (e : Bool) (col : Col) (op : Int) (k : Option ClipV) : PV := .tup [.str wd, contsP cs, .str (ruleS e), flatP col, .int op, clipP k]
theorem d_mask_cnt {l t wd ht x y : Int} {a : Addr} {G : Int → Int → Int} (ha : σ a = some (.list (cnt2 l t wd ht G))) (h1 : l ≤ x) (h2 : x < l + wd) (h3 : t ≤ y) (h4 : y < t + ht) (hw : wd ≤ 100) (hh : ht ≤ 100) : Dc c (n + 3) (.ref 252) [maskP l t wd ht a, .int x, .int y] σ (.int (roundedV (255 * G x y) 4)) := by
  have h := d_mask_alpha (c := c) (n := n) (σ := σ) (f := fun j => G (l + ((j % wd.toNat : Nat) : Int)) (t + ((j / wd.toNat : Nat) : Int))) ha h1 h2 h3 h4 hw hh
  have e := maskIx_at h1 h2 h3 h4
  rw [e.1, e.2] at h
  exact h
theorem d_paint_fill {wo : Str} {cs : List (List Pt)} {e : Bool} {col : Col} {op l t wd ht : Int} {k : Option ClipV} {rows : List Addr} {g : Int → Int → Col} (hc : Conts cs) (hz : (sidesOf cs).length < 64) (h0 : 0 < wd) (hw : wd ≤ 100) (h0' : 0 < ht) (hh : ht ≤ 100) (hl : l.natAbs < 100) (ht' : t.natAbs < 100)
    (hcol : ColOk col) (ho : 0 ≤ op ∧ op ≤ 255) (hk : ClipIn σ k) (hr : rows.length = ht.toNat) (hn : rows.Nodup) (hf : ∀ r ∈ rows, σ r = none) :
    Ca c (n + 8) (.ref 334) [canvP l t wd ht rows, opP wo cs e col op k, .int 2, .int 4] (gridS σ l t wd rows fun x y => colP (g x y)) fun p σ' => p = .none ∧ σ' = gridS σ l t wd rows fun x y => colP (dotV (manyV cs e x y) op (letV k x y) col (g x y)) := by
  refine Ca.frz <| Cc.ca <| Cc.fn ["canvas", "op", "fine", "grain"] rfl (argn4 fun _ _ _ _ => rfl) fun L cells => ?_
  refine Xs.unpack (opP wo cs e col op k) (De.nm rfl) (As.pr (.cons (As.nm (i := 4)) (.cons (As.nm (i := 5)) (.cons (As.nm (i := 6)) (.cons (As.nm (i := 7)) (.cons (As.nm (i := 8)) (.cons (As.nm (i := 9)) (.nil _))))))) ⟨rfl, rfl, rfl, rfl, rfl, rfl, trivial⟩) ?_
  refine Xs.let 10 (optC (tileV (some (boxV cs)))) (De.fn f_tile_of_box (Ds.cons (De.fn f_box_of (Ds.cons (De.nm rfl) Ds.nil) (d_box_of hc)) (Ds.cons (De.nm rfl) Ds.nil)) d_tile_of_box) ?_
  generalize hT : tileV (some (boxV cs)) = T
  refine Xs.let 11 (optC (T.bind (commonV (l, t, wd, ht)))) ?_ ?_
  · cases T with
    | none => exact De.is (De.ifexp (q := .none) (Dt.isNone (De.nm rfl)) (fun _ => De.nothing) fun h => nomatch (show true = false from h)) rfl
    | some b => exact De.is (De.ifexp (p := .none) (Dt.isNone (De.nm rfl)) (fun h => nomatch (show false = true from h)) fun _ => De.fn f_common_tile (Ds.cons (De.fn f_rectangle_of (Ds.cons (De.nm rfl) Ds.nil) d_rectangle_of) (Ds.cons (De.nm rfl) Ds.nil)) d_common_tile) rfl
  have hout : ∀ x y, l ≤ x → x < l + wd → t ≤ y → y < t + ht → (∀ q, T.bind (commonV (l, t, wd, ht)) = some q → ¬ (q.1 ≤ x ∧ x < q.1 + q.2.2.1 ∧ q.2.1 ≤ y ∧ y < q.2.1 + q.2.2.2)) → manyV cs e x y = 0 := fun x y h1 h2 h3 h4 h5 => many_out h1 h2 h3 h4 (by rw [hT]; exact h5)
  generalize hp : T.bind (commonV (l, t, wd, ht)) = part at hout
  refine Xs.ifs (Dt.or2 (Dt.isNone (De.nm rfl)) fun _ => Dt.cmp (De.nm rfl) De.num) (fun h => ?_) fun h => ?_
  · refine Xs.cons (Ex.retNone ⟨.none, _, .same _, rfl, ?_⟩)
    refine gridS_congr hr fun x y h1 h2 h3 h4 => ?_
    rw [optC_none] at h
    cases part with
    | none => rw [hout x y h1 h2 h3 h4 (fun q hq => nomatch hq), dot_zero]
    | some q =>
      have : op = 0 := by simpa [cmpI] using h
      rw [this, dot_no]
  · cases part with
    | none => exact nomatch (show true = false from by simpa [optC, PV.isNone] using h)
    | some q =>
      have hop : op ≠ 0 := by
        rw [optC_none] at h
        simpa [cmpI] using h
      have hq : commonV (l, t, wd, ht) (T.getD (0,0,0,0)) = some q := by
        cases T with
        | none => cases hp
        | some b => exact hp
      obtain ⟨q1, q2, q3, q4, q5, q6⟩ := common_in hq
      dsimp only at q1 q2 q3 q4
      have z1 : q.2.2.1 ≤ 100 := by lia
      have z2 : q.2.2.2 ≤ 100 := by lia
      have z3 : q.1.natAbs < 2 ^ 8 := by omega
      have z4 : q.2.1.natAbs < 2 ^ 8 := by omega
      have wm : wd ≤ 1000000 := Int.le_trans hw (by decide)
      have hm1 : ht ≤ 1000000 := Int.le_trans hh (by decide)
      refine Xs.unpack (colP q) (De.nm rfl) (As.pr (.cons (As.nm (i := 12)) (.cons (As.nm (i := 13)) (.cons (As.nm (i := 14)) (.cons (As.nm (i := 15)) (.nil _))))) ⟨rfl, rfl, rfl, rfl, trivial⟩) ?_
      refine Xs.cons (Ex.assign (i := 16) rfl (Ev.fn f_mask_of (Ds.es (l := [contsP cs, .str (ruleS e), .int q.1, .int q.2.1, .int q.2.2.1, .int q.2.2.2, .int 2, .int 4]) (Ds.cons (De.nm rfl) (Ds.cons (De.nm rfl) (Ds.cons (De.nm rfl) (Ds.cons (De.nm rfl) (Ds.cons (De.nm rfl) (Ds.cons (De.nm rfl) (Ds.cons (De.nm rfl) (Ds.cons (De.nm rfl) Ds.nil)))))))) (Ca.mono (d_mask_of hc hz (sides_ok hc) q5 z1 q6 z2 z3 z4) fun p σ' hp => ?_))))
      obtain ⟨a, S, ha, rfl, hS, rfl⟩ := hp
      obtain ⟨har, ha⟩ := rowsAt_none ha
      have em : cnt2 q.1 q.2.1 q.2.2.1 q.2.2.2 (fun x y => cover (S (2 * y)) x + cover (S (2 * y + 1)) x) = cnt2 q.1 q.2.1 q.2.2.1 q.2.2.2 (manyV cs e) := cnt2_congr (Int.le_of_lt q5) (Int.le_of_lt q6) fun x y _ _ hy hy' => cover_many hS hy hy'
      rw [em, show ∀ b, (gridS σ l t wd rows fun x y => colP (g x y)).upd a b = gridS (σ.upd a b) l t wd rows fun x y => colP (g x y) from fun b => rowsAt_upd har]
      have hlen : ∀ m : Int, 0 ≤ m → ∀ a : Int, ((nums a (a + m - a).toNat).length : Int) = m := fun m hm a => by rw [nums_length]; (first | lia | omega)
      refine Xs.for (It.rg2 b_range (Ds.cons (De.nm rfl) (Ds.cons (De.add (De.nm rfl) (De.nm rfl)) Ds.nil)) (by (first | lia | omega)) (by (first | lia | omega)) (Loop.inv (I := fun k1 ρ σ' => (Some3 (fun u v z => [some (canvP l t wd ht rows), some (opP wo cs e col op k), some (.int 2), some (.int 4), some (.str wo), some (contsP cs), some (.str (ruleS e)), some (flatP col), some (.int op), some (clipP k), some (optC T), some (colP q), some (.int q.1), some (.int q.2.1), some (.int q.2.2.1), some (.int q.2.2.2), some (maskP q.1 q.2.1 q.2.2.1 q.2.2.2 a), u, v, z, none, none, none, none, none, none, none, none, none]) ρ) ∧ σ' = gridS (σ.upd a (.list (cnt2 q.1 q.2.1 q.2.2.1 q.2.2.2 (manyV cs e)))) l t wd rows fun x y => colP (gPart q (fun x y => dotV (manyV cs e x y) op (letV k x y) col) g k1 0 x y)) (fun k1 p ρ σ' hk1 hI => ?_) (fun ρ σ' hI => ?_) _ _ ⟨⟨none, none, none, rfl⟩, ?_⟩))
      · obtain ⟨⟨u, v, z, rfl⟩, rfl⟩ := hI
        obtain ⟨hk1', rfl⟩ := nums_get hk1
        refine ⟨_, As.nm (i := 17), ?_⟩
        refine Xs.for (It.rg2 b_range (Ds.cons (De.nm rfl) (Ds.cons (De.add (De.nm rfl) (De.nm rfl)) Ds.nil)) (by (first | lia | omega)) (by (first | lia | omega)) (Loop.inv (I := fun j ρ σ' => (Some2 (fun v z => [some (canvP l t wd ht rows), some (opP wo cs e col op k), some (.int 2), some (.int 4), some (.str wo), some (contsP cs), some (.str (ruleS e)), some (flatP col), some (.int op), some (clipP k), some (optC T), some (colP q), some (.int q.1), some (.int q.2.1), some (.int q.2.2.1), some (.int q.2.2.2), some (maskP q.1 q.2.1 q.2.2.1 q.2.2.2 a), some (.int (q.2.1 + k1)), v, z, none, none, none, none, none, none, none, none, none]) ρ) ∧ σ' = gridS (σ.upd a (.list (cnt2 q.1 q.2.1 q.2.2.1 q.2.2.2 (manyV cs e)))) l t wd rows fun x y => colP (gPart q (fun x y => dotV (manyV cs e x y) op (letV k x y) col) g k1 j x y)) (fun j p ρ σ' hj hI => ?_) (fun ρ σ' hI => ?_) _ _ ⟨⟨_, _, rfl⟩, rfl⟩))
        · obtain ⟨⟨v, z, rfl⟩, rfl⟩ := hI
          obtain ⟨hj', rfl⟩ := nums_get hj
          have hj'' : (j : Int) < q.2.2.1 := by (first | lia | omega)
          have hk'' : (k1 : Int) < q.2.2.2 := by (first | lia | omega)
          have ja : q.1 ≤ q.1 + j := Int.le_add_of_nonneg_right (Int.natCast_nonneg j)
          have jb : q.1 + j < q.1 + q.2.2.1 := Int.add_lt_add_left hj'' _
          have ka : q.2.1 ≤ q.2.1 + k1 := Int.le_add_of_nonneg_right (Int.natCast_nonneg k1)
          have kb : q.2.1 + k1 < q.2.1 + q.2.2.2 := Int.add_lt_add_left hk'' _
          have xa := Int.le_trans q1 ja
          have xb := Int.lt_of_lt_of_le jb q2
          have ya := Int.le_trans q3 ka
          have yb := Int.lt_of_lt_of_le kb q4
          refine ⟨_, As.nm (i := 18), ?_⟩
          have hl' := letV_le hk (x := q.1 + j) (y := q.2.1 + k1)
          have hm := @many_range cs e (q.1 + j) (q.2.1 + k1)
          have hal := alpha_range hm.1 hm.2 ho.1 ho.2 hl'.1 hl'.2
          have hk2 : ∀ G, ClipIn (gridS (σ.upd a (.list (cnt2 q.1 q.2.1 q.2.2.1 q.2.2.2 (manyV cs e)))) l t wd rows G) k := fun G => hk.mono fun r b h => gridS_old (fun r hr' => (upd_ne (fun e : r = a => har (by rw [← e]; exact hr'))).trans (hf r hr')) (upd_old ha h)
          refine Xs.let 19 (.int (alphaV (manyV cs e (q.1 + j) (q.2.1 + k1)) op (letV k (q.1 + j) (q.2.1 + k1)))) (De.is (De.fn f_share (Ds.cons (De.meth (De.nm rfl) m_Mask_alpha (by decide) (Ds.cons (De.nm rfl) (Ds.cons (De.nm rfl) Ds.nil)) (d_mask_cnt ((rowsAt_not har).trans upd_self) ja jb ka kb z1 z2)) (Ds.cons (De.nm rfl) (Ds.cons (De.nm rfl) (Ds.cons (De.nm rfl) (Ds.cons (De.nm rfl) Ds.nil))))) (d_share (hk2 _) (by (first | lia | omega)))) (congrArg PV.int share_alpha)) ?_
          have hdot := dot_eq (col := col) (b := g (q.1 + j) (q.2.1 + k1)) hal.1
          have hthin := (thin_ok hcol hal.1 hal.2).c3
          generalize alphaV (manyV cs e (q.1 + j) (q.2.1 + k1)) op (letV k (q.1 + j) (q.2.1 + k1)) = al at hal hdot hthin
          refine Xs.ifs (Dt.cmp (De.nm rfl) De.num) (fun h => ?_) fun h => ?_
          · have h' : 0 < al := by simpa [cmpI] using h
            rw [if_pos h'] at hdot
            refine Xs.cons (Ex.expr (Ev.meth (De.nm rfl) m_Canvas_put (by decide) (Ds.es (l := [.int (q.1 + j), .int (q.2.1 + k1), colP (overV (thinnedV col al) (g (q.1 + j) (q.2.1 + k1)))]) (Ds.cons (De.nm rfl) (Ds.cons (De.nm rfl) (Ds.cons (De.fn f_over (Ds.cons (De.fn f_thinned (Ds.cons (De.meth (De.nm rfl) m_Flat_colour_at (by decide) (Ds.cons (De.nm rfl) (Ds.cons (De.nm rfl) Ds.nil)) d_colour_at) (Ds.cons (De.nm rfl) Ds.nil)) (d_thinned (by (first | lia | omega)))) (Ds.cons (De.is (De.meth (De.nm rfl) m_Canvas_get (by decide) (Ds.cons (De.nm rfl) (Ds.cons (De.nm rfl) Ds.nil)) (d_get (gridS_in hr hn) xa xb ya yb wm hm1)) (by rw [gPart_here])) Ds.nil)) (d_over (by rw [thinned_thin]; (first | lia | omega)))) Ds.nil))) (Ca.mono (d_put hr hn xa xb ya yb wm hm1) fun p σ' hp => ?_))))
            obtain ⟨rfl, rfl⟩ := hp
            rw [hdot]
            refine Xs.nil (Xs.nil ⟨⟨_, _, rfl⟩, ?_⟩)
            congr 1
            exact gPart_put hj''
          · have h' : ¬ 0 < al := by simpa [cmpI] using h
            rw [if_neg h'] at hdot
            refine Xs.nil ⟨⟨_, _, rfl⟩, ?_⟩
            congr 1
            exact gPart_skip hj'' hdot.symm
        · obtain ⟨⟨v, z, rfl⟩, rfl⟩ := hI
          rw [gPart_row (hlen _ (by (first | lia | omega)) _)]
          exact Xs.nil ⟨⟨_, _, _, rfl⟩, rfl⟩
      · obtain ⟨⟨u, v, z, rfl⟩, rfl⟩ := hI
        refine Xs.nil ⟨.none, _, .sub _ _ ?_, rfl, rfl⟩
        have e1 : (gridS σ l t wd rows fun x y => colP (dotV (manyV cs e x y) op (letV k x y) col (g x y))) = gridS σ l t wd rows fun x y => colP (gPart q (fun x y => dotV (manyV cs e x y) op (letV k x y) col) g (nums q.2.1 (q.2.1 + q.2.2.2 - q.2.1).toNat).length 0 x y) := by
          refine gridS_congr hr fun x y h1 h2 h3 h4 => ?_
          have := hlen _ (Int.le_of_lt q6) q.2.1
          unfold gPart
          by_cases hb : q.1 ≤ x ∧ x < q.1 + q.2.2.1 ∧ q.2.1 ≤ y ∧ y < q.2.1 + q.2.2.2
          · rw [if_pos (by (first | lia | omega))]
          · rw [if_neg (by (first | lia | omega)), hout x y h1 h2 h3 h4 (fun q' hq' => by cases hq'; exact hb), dot_zero]
        rw [e1]
        exact gridS_sub fun r b h => upd_old ha h
      · rw [gPart_zero]
end
section
variable {prog : Program} {w : World} {K : Frag} {c : Cx prog w K} {n : Nat} {env : Env} {ρ : List (Option PV)} {σ : Sto} {rest : List Stmt}
theorem twoE {l r : PySem.Expr} {R : PV → PV → Sto → Prop} {A : Around} {X : Addr → Prop} {s : Shared} {P : PV → Sto → Prop} {f : Value → Value → Sem Value} (h : Ev c n env l ρ σ fun p σ₁ => Ev c n env r ρ σ₁ fun q σ₂ => R p q σ₂)
    (rm : Room n A) (S : Sat prog w c.G X s.heap σ) (L : LRep prog w env X s.heap (Bad X σ) ρ)
    (k : ∀ p q σ' v u s', Rep prog w s'.heap (Bad X σ') p v → Rep prog w s'.heap (Bad X σ') q u → Sat prog w c.G X s'.heap σ' → LRep prog w env X s'.heap (Bad X σ') ρ → R p q σ' → wpAny (model prog w) A (f v u) (EPost c env X ρ s' σ' P) NoE s') :
    wpAny (model prog w) A (eval l env) (fun v s₁ => wpAny (model prog w) A (eval r env) (fun u s₂ => wpAny (model prog w) A (f v u) (EPost c env X ρ s σ P) NoE s₂) NoE s₁) NoE s := by
  refine Ev.then h rm S L fun v s₁ pv σ₁ rv S₁ R₁ x₁ e => ?_
  refine Ev.then e rm S₁ R₁ fun u s₂ pu σ₂ ru S₂ R₂ x₂ e => ?_
  exact wpAny_mono (k _ _ _ v u s₂ (rv.stay (x₂.stay L.ok.own)) ru S₂ R₂ e) (fun _ _ h => h.after (x₁.trans x₂ S₁ L.ok.own) S₂ L.ok) fun _ _ x => x
theorem Ev.add {l r : PySem.Expr} {pos : Pos} {Q : PV → Sto → Prop} (h : Ev c n env l ρ σ fun p σ₁ => Ev c n env r ρ σ₁ fun q σ₂ => ∃ i j, p = .int i ∧ q = .int j ∧ Q (.int (i + j)) σ₂) : Ev c n env (.BinOp l .Add r pos) ρ σ Q := fun A X s rm S R =>
  wpAny_BinOp (twoE h rm S R fun p q σ' v u s' rv ru S' R' ⟨i, j, e1, e2, q⟩ => by
    subst e1; subst e2
    obtain ⟨t, rfl⟩ := rv.int_inv
    obtain ⟨t', rfl⟩ := ru.int_inv
    exact add_int (EPost.now S' R' Rep.int q))
theorem Ev.sub {l r : PySem.Expr} {pos : Pos} {Q : PV → Sto → Prop} (h : Ev c n env l ρ σ fun p σ₁ => Ev c n env r ρ σ₁ fun q σ₂ => ∃ i j, p = .int i ∧ q = .int j ∧ Q (.int (i - j)) σ₂) : Ev c n env (.BinOp l .Sub r pos) ρ σ Q := fun A X s rm S R =>
  wpAny_BinOp (twoE h rm S R fun p q σ' v u s' rv ru S' R' ⟨i, j, e1, e2, q⟩ => by
    subst e1; subst e2
    obtain ⟨t, rfl⟩ := rv.int_inv
    obtain ⟨t', rfl⟩ := ru.int_inv
    exact sub_int (EPost.now S' R' Rep.int q))
theorem Ev.itemL {v i : PySem.Expr} {pos : Pos} {l : List PV} {Q : PV → Sto → Prop} (h : Ev c n env v ρ σ fun p σ₁ => Ev c n env i ρ σ₁ fun q σ₂ => ∃ k j x, p = .lst l ∧ q = .int k ∧ -(2 ^ 63) ≤ k ∧ k < 2 ^ 63 ∧ seqIndex? k l.length = some j ∧ l[j]? = some x ∧ Q x σ₂)
    (hs : ∀ a k t, subscripted i false (.ref a) (.int k t) = operate [.ref a, .int k t] (getItem (.ref a) (.int k t)) := by intro _ _ _; rfl) : Ev c n env (.Subscript v i pos) ρ σ Q := fun A X s rm S R =>
  Subscript_ (twoE h rm S R fun p q σ' u z s' ru rz S' R' ⟨k, j, x, e1, e2, h1, h2, hj, hx, q⟩ => by
    subst e1; subst e2
    obtain ⟨a, vs, m, rfl, hb, ht, rl⟩ := ru.lst_inv
    obtain ⟨t, rfl⟩ := rz.int_inv
    obtain ⟨y, hy, rx⟩ := rl.get hx
    exact item_list ht h1 h2 (by rw [rl.length]; exact hj) hy (EPost.same S' R' rx q) (hs a k t))
theorem Te.cmp {l r : PySem.Expr} {op : CmpOp} {pos : Pos} {Q : Bool → Sto → Prop} (h : Ev c n env l ρ σ fun p σ₁ => Ev c n env r ρ σ₁ fun q σ₂ => ∃ i j, p = .int i ∧ q = .int j ∧ Q (cmpI op i j) σ₂) (ho : cmpOk op = true := by rfl) (hb : behindInMarks op r = false := by rfl) : Te c n env (.Compare l [op] [r] pos) ρ σ Q := fun A X s rm S R => by
  refine wpAny_isTrue_Compare1 (Ev.then h rm S R fun v s₁ pv σ₁ rv S₁ R₁ x₁ e => ?_) hb
  refine Ev.then e rm S₁ R₁ fun u s₂ pu σ₂ ru S₂ R₂ x₂ e => ?_
  obtain ⟨i, j, rfl, rfl, q⟩ := e
  obtain ⟨t, rfl⟩ := rv.int_inv
  obtain ⟨t', rfl⟩ := ru.int_inv
  exact cmp_int ho (wpAny_truthy_bool ⟨_, S₂, R₂, x₁.trans x₂ S₁ R.ok.own, q⟩)
theorem Ex.ifE {t : PySem.Expr} {body orelse : List Stmt} {pos : Pos} {Q : FV → List (Option PV) → Sto → Prop} (ht : Te c n env t ρ σ fun b σ₁ => (b = true → Xs c n env body ρ σ₁ Q) ∧ (b = false → Xs c n env orelse ρ σ₁ Q)) : Ex c n env (.If t body orelse pos) ρ σ Q := fun A X s rm S R => by
  refine wpAny_If (Te.then ht rm S R fun b' s₁ σ₁ S₁ R₁ x₁ e => ?_)
  cases b' with
  | true => exact wpAny_mono (e.1 rfl A X s₁ rm S₁ R₁) (fun _ _ h => h.after x₁ S₁ R.ok) fun _ _ x => x
  | false => exact wpAny_mono (e.2 rfl A X s₁ rm S₁ R₁) (fun _ _ h => h.after x₁ S₁ R.ok) fun _ _ x => x
theorem Xs.ifE {t : PySem.Expr} {body : List Stmt} {pos : Pos} {Q : FV → List (Option PV) → Sto → Prop} (ht : Te c n env t ρ σ fun b σ₁ => (b = true → Xs c n env body ρ σ₁ (Go c n env rest Q)) ∧ (b = false → Xs c n env rest ρ σ₁ Q)) : Xs c n env (.If t body [] pos :: rest) ρ σ Q :=
  Xs.cons (Ex.ifE (Te.mono ht fun b σ₁ ⟨h1, h2⟩ => ⟨h1, fun e => Xs.nil (h2 e)⟩))
theorem upd_swap {σ : Sto} {a b : Addr} {x y z : Box} (h : a ≠ b) : ((σ.upd a x).upd b y).upd a z = (σ.upd a z).upd b y := by
  funext k
  unfold Sto.upd
  by_cases h1 : k = a
  · subst h1
    simp [h]
  · simp [h1]
theorem upd_get2 {σ : Sto} {a b : Addr} {x y : Box} (h : a ≠ b) : ((σ.upd a x).upd b y) a = some x := by
  unfold Sto.upd; simp [h]
end
section
variable {prog : Program} {w : World} {K : Frag} {c : Cx prog w K} {n : Nat} {env : Env} {ρ : List (Option PV)} {σ : Sto} {rest : List Stmt} {Q : FV → List (Option PV) → Sto → Prop}
theorem It.rg1E {t : PySem.Expr} {es : List PySem.Expr} {fp pos : Pos} {Q : List PV → Sto → Prop} (hg : nsIn K mainGlobals "range" = some none)
    (hes : Es c n env es ρ σ fun l σ₁ => ∃ b : Int, l = [.int b] ∧ b.natAbs < 2 ^ 40 ∧ Q (nums 0 b.toNat) σ₁) (ht : topAt env.scope.names "range" = true := by rfl)
    (ho : ArgsOk es env pos := by exact ⟨rfl, .inr ⟨_, _, rfl, rfl⟩⟩) : It c n env t (.Call (.Name "range" fp) es [] pos) ρ σ Q := fun A X s rm S R => by
  obtain ⟨_, hi⟩ := topAt_get ht
  refine bootT_then hi hg boot_range hes ho.1 ho.2 (by decide) (by decide) rm S R fun vs s₁ l σ₁ rl S₁ R₁ x₁ q => ?_
  obtain ⟨b, rfl, hb, q⟩ := q
  simp only [Reps] at rl
  obtain ⟨v, _, rfl, r1, rfl⟩ := rl
  obtain ⟨t1, rfl⟩ := r1.int_inv
  refine call_range_1 ?_
  have hk := push_stays s₁.heap { cls := Value.type "range", data := Data.fields #[Value.int 0 s₁.toks, Value.int b t1, Value.int 1 (s₁.toks + 1)] }
  exact it_range (t := t) (s₁ := { s₁ with heap := _, toks := _ }) (Heap.get?_push_size _ rfl) rm (S₁.ext hk) (R₁.ext hk) (x₁.trans (step_ext hk) S₁ R.ok.own) (by decide) hb (by rw [Int.sub_zero]; exact q)
theorem Xs.pop {o : PySem.Expr} {apos cpos pos : Pos} {a : Addr} {l : List PV} {p : PV} (ho : De c n env ρ (σ.upd a (.list (l ++ [p]))) o (.at a)) (hz : l.length ≤ 100000) (r : Xs c n env rest ρ (σ.upd a (.list l)) Q)
    (hi : interactive env = false := by rfl) (hs : swapsWith (.Call (.Attribute o "pop" apos) [] [] cpos) none pos.line env = pure false := by rfl)
    (h1 : attributeBase o "pop" env (eval o env) = eval o env := by rfl)
    (h2 : ((((backTo cpos (starEach [] env)).all fun x => !x.fst) && (backToKw cpos (keywordEach [] env)).all fun x => x.fst.isSome) && decide ((([] : List PySem.Expr).length + ([] : List Keyword).length + if ([] : List Keyword).isEmpty = true then 0 else 1) < 30)) = true := by rfl)
    (h3 : (apos.endLine == cpos.line) = true := by rfl) (hp : (backTo cpos (starEach [] env)).any (·.1) = false := by rfl) :
    Xs c n env (.Expr (.Call (.Attribute o "pop" apos) [] [] cpos) pos :: rest) ρ (σ.upd a (.list (l ++ [p]))) Q :=
  Xs.cons (Ex.expr (Ev.bm ho (.inl ⟨rfl, _, upd_self⟩) (Es.nil (Ca.pop upd_self hz (by rw [upd_upd]; exact r))) F.plainAttrs_list F.slot_list_pop F.type_list_pop h1 h2 h3 hp (.inl rfl)) hi hs)
theorem seqIndex_end {n : Nat} (h : 0 < n) : seqIndex? (-1) n = some (n - 1) := by
  unfold seqIndex?
  simp only [show (-1 : Int) < 0 from by decide, if_true]
  rw [if_pos (by simp; omega)]
  congr 1
  omega
theorem get_last {α : Type} {l : List α} (h : l ≠ []) : l[l.length - 1]? = some (l.getLast h) := by
  rw [List.getElem?_eq_getElem (by have := List.length_pos_iff.mpr h; omega), List.getLast_eq_getElem]
end
section
variable {prog : Program} {w : World} {K : Frag} {c : Cx prog w K} {n : Nat} {env : Env} {ρ : List (Option PV)} {σ : Sto}
noncomputable def srcL (a b : Int) : Box := .list [.int a, .int b]
theorem De.src0 {v : PySem.Expr} {pos p2 : Pos} {k : Nat} {s : Addr} {a b : Int} (hv : De c n env ρ σ v (.at s)) (hs : σ s = some (srcL a b)) : De c n env ρ σ (.Subscript v (.Constant (.int 0) k p2) pos) (.int a) := De.itemAt (j := 0) hv De.num hs (by decide) (by decide) rfl rfl
theorem De.src1 {v : PySem.Expr} {pos p2 : Pos} {k : Nat} {s : Addr} {a b : Int} (hv : De c n env ρ σ v (.at s)) (hs : σ s = some (srcL a b)) : De c n env ρ σ (.Subscript v (.Constant (.int 1) k p2) pos) (.int b) := De.itemAt (j := 1) hv De.num hs (by decide) (by decide) rfl rfl
end
theorem fmod_in {x m : Int} (h : 0 < m) : 0 ≤ x.fmod m ∧ x.fmod m < m := by
  rw [Int.fmod_eq_emod_of_nonneg _ (Int.le_of_lt h)]
  exact ⟨Int.emod_nonneg _ (by omega), Int.emod_lt_of_pos _ h⟩
section
variable {prog : Program} {w : World} {c : Cx prog w (heapK w.params)} {n : Nat} {σ : Sto} {P : Params}
inductive PoolPost (σ : Sto) (p : PV) (σ' : Sto) : Prop
  | mk (s : Addr) (a b : Int) (e : p = .at s) (h : σ s = none) (e' : σ' = σ.upd s (srcL a b))
inductive TakePost (σ : Sto) (s : Addr) (top : Int) (p : PV) (σ' : Sto) : Prop
  | mk (r a' b' : Int) (h0 : 0 ≤ r) (h1 : r < top) (e : p = .int r) (e' : σ' = σ.upd s (srcL a' b'))
inductive OnePost (σ : Sto) (s : Addr) (l : List PV) (p : PV) (σ' : Sto) : Prop
  | mk (r : Nat) (a' b' : Int) (h : l[r]? = some p) (e : σ' = σ.upd s (srcL a' b'))
theorem d_law_pool {l : List Int} (hl : l.length ≤ 1000) : Ca c (n + 1) (.ref 480) [.lst (intsP l)] σ (PoolPost σ) :=
  Cc.ca <| Cc.fn ["script"] rfl (argn1 fun _ => rfl) fun L cells => by
    have hlen : (intsP l).length = l.length := by unfold intsP; rw [List.length_map]
    refine Xs.let 1 (.int (l.headD 0)) (De.is (De.ifexp (p := .int (l.headD 0)) (q := .int 0) (Dt.cmp (De.bf Boot.len b_len (Ds.cons (De.nm rfl) Ds.nil) (Dc.lenL (by (first | lia | omega)))) De.num) (fun h => De.itemL (l := intsP l) (k := 0) (j := 0) (De.nm rfl) De.num (by decide) (by decide) (by
      have h : 0 < (intsP l).length := by simpa [cmpI] using h
      exact seqIndex_nat h) (by
      have h : 0 < (intsP l).length := by simpa [cmpI] using h
      cases l with
      | nil => simp [intsP] at h
      | cons x l => rfl)) fun h => De.num) (by
      cases l with
      | nil => rfl
      | cons x l => rw [if_pos (by rw [hlen]; simp [cmpI])])) ?_
    generalize l.headD 0 = h
    refine Xs.let 2 (.int (max h (-1 - h))) (De.bf Boot.max b_max (Ds.cons (De.bt Boot.int b_int (Ds.cons (De.nm rfl) Ds.nil) Dc.intI) (Ds.cons (De.bt Boot.int b_int (Ds.cons (De.sub (De.neg De.num) (De.nm rfl)) Ds.nil) Dc.intI) Ds.nil)) Dc.max2) ?_
    refine Xs.ret (Ev.listAt (Ds.es (Ds.cons (De.mul (De.nm rfl) (De.bt Boot.int b_int (Ds.cons (De.cmp (De.nm rfl) (De.pow De.num De.num (by decide) (by decide) (by decide))) Ds.nil) Dc.intB) (smallMul (by split <;> decide))) (Ds.cons (De.fmod (De.bt Boot.int b_int (Ds.cons (De.mul (De.add (De.fmod (De.nm rfl) De.num (by decide)) De.num) De.num (smallMul (by decide))) Ds.nil) Dc.intI) De.num (by decide)) Ds.nil)) ⟨show 2 ≤ 1000 by decide, fun a ha => ⟨a, _, _, rfl, ha, rfl⟩⟩))
theorem d_take {s : Addr} {a b top : Int} (hs : σ s = some (srcL a b)) (h0 : 0 < top) (h1 : top < 2 ^ 40) : Ca c (n + 1) (.ref 487) [.at s, .int top] σ (TakePost σ s top) :=
  Cc.ca <| Cc.fn ["source", "top"] rfl (argn2 fun _ _ => rfl) fun L cells => by
    refine Xs.ifs (Dt.cmp (De.src0 (De.nm rfl) hs) De.num) (fun h => ?_) fun h => ?_
    · refine Xs.let 2 (.int (a.fmod top)) (De.fmod (De.bt Boot.int b_int (Ds.cons (De.src0 (De.nm rfl) hs) Ds.nil) Dc.intI) (De.nm rfl) (by (first | lia | omega))) ?_
      refine Xs.cons (Ex.setList (De.ev (De.fdiv (De.src0 (De.nm rfl) hs) (De.nm rfl) (by (first | lia | omega)) (smallDiv (by (first | lia | omega)))) ⟨s, _, 0, De.nm rfl, De.num, hs, by simp, by simp, ?_⟩))
      have := fmod_in (x := a) h0
      exact Xs.give (.int (a.fmod top)) (De.nm rfl) ⟨a.fmod top, _, _, this.1, this.2, rfl, rfl⟩
    · refine Xs.cons (Ex.setList (De.ev (De.fmod (De.bt Boot.int b_int (Ds.cons (De.add (De.mul (De.src1 (De.nm rfl) hs) De.num (smallMul (by decide))) De.num) Ds.nil) Dc.intI) De.num (by decide)) ⟨s, _, 1, De.nm rfl, De.num, hs, by simp, by simp, ?_⟩))
      have hb := fmod_in (x := b * 39373 + 7) (m := 2147483647) (by decide)
      show Xs c n _ _ _ (σ.upd s (srcL a ((b * 39373 + 7).fmod 2147483647))) _
      generalize (b * 39373 + 7).fmod 2147483647 = b' at hb
      have hs' : (σ.upd s (srcL a b')) s = some (srcL a b') := upd_self
      have hr := fmod_in (x := ((b' * b').fmod 2147483629).fdiv 32) h0
      exact Xs.give _ (De.fmod (De.fdiv (De.fmod (De.bt Boot.int b_int (Ds.cons (De.mul (De.src1 (De.nm rfl) hs') (De.src1 (De.nm rfl) hs') (smallMul (by (first | lia | omega)))) Ds.nil) Dc.intI) De.num (by decide)) De.num (by decide) (smallDiv (by decide))) (De.nm rfl) (by (first | lia | omega))) ⟨_, _, _, hr.1, hr.2, rfl, rfl⟩
theorem d_one {s : Addr} {a b : Int} {l : List PV} (hs : σ s = some (srcL a b)) (h0 : l ≠ []) (hl : l.length ≤ 1000) : Ca c (n + 2) (.ref 494) [.at s, .lst l] σ (OnePost σ s l) :=
  Cc.ca <| Cc.fn ["source", "things"] rfl (argn2 fun _ _ => rfl) fun L cells => by
    have hp : 0 < l.length := List.length_pos_iff.mpr h0
    refine Xs.ret (Ev.itemL (l := l) (De.ev (De.nm rfl) (Ev.fn f_law_take (Ds.es (Ds.cons (De.nm rfl) (Ds.cons (De.bf Boot.len b_len (Ds.cons (De.nm rfl) Ds.nil) (Dc.lenL (by (first | lia | omega)))) Ds.nil)) (Ca.mono (d_take hs (by (first | lia | omega)) (by (first | lia | omega))) fun p σ' hp' => ?_)))))
    obtain ⟨r, a', b', h1, h2, rfl, rfl⟩ := hp'
    obtain ⟨k, rfl⟩ := Int.eq_ofNat_of_zero_le h1
    have hk : k < l.length := by (first | lia | omega)
    refine ⟨k, k, l[k], rfl, rfl, by (first | lia | omega), by (first | lia | omega), seqIndex_nat hk, List.getElem?_eq_getElem hk, k, a', b', List.getElem?_eq_getElem hk, rfl⟩
theorem d_law_times {m alpha : Int} (h2 : alpha.natAbs < 2 ^ 20) : Dc c (n + 1) (.ref 515) [.int m, .int alpha] σ (.int (weightedV m alpha)) :=
  Cc.ca <| Cc.fn ["n", "alpha"] rfl (argn2 fun _ _ => rfl) fun L cells =>
    Xs.give _ (De.fdiv (De.add (De.mul (De.mul De.num (De.nm rfl) (smallMul' (by decide))) (De.nm rfl) (smallMul (by (first | lia | omega)))) De.num) De.num (by decide) (smallDiv (by decide))) ⟨rfl, rfl⟩
end
structure Drawn (pts : List Pt) : Prop where
  ne : pts ≠ []
  few : pts.length ≤ 4
  sm : ∀ p ∈ pts, p.1.natAbs < 2 ^ 10 ∧ p.2.natAbs < 2 ^ 10
section
variable {prog : Program} {w : World} {c : Cx prog w (heapK w.params)} {n : Nat} {σ : Sto} {P : Params}
theorem spot_small {l wd x : Int} (hl : l.natAbs < 100) (h0 : 0 ≤ x) (h1 : x < 4 * wd + 7) (hw : wd ≤ 100) : (4 * l - 3 + x).natAbs < 2 ^ 10 := by omega
inductive ContPost (σ : Sto) (s : Addr) (p : PV) (σ' : Sto) : Prop
  | mk (pts : List Pt) (a' b' : Int) (e : p = contP pts) (h : Drawn pts) (e' : σ' = σ.upd s (srcL a' b'))
theorem d_law_contour {s : Addr} {a b l t wd ht : Int} {rows : List Addr} (hs : σ s = some (srcL a b)) (h0 : 0 < wd) (hw : wd ≤ 100) (h0' : 0 < ht) (hh : ht ≤ 100) (hl : l.natAbs < 100) (ht' : t.natAbs < 100) :
    Ca c (n + 3) (.ref 501) [.at s, canvP l t wd ht rows] σ (ContPost σ s) := by
  refine Ca.frz <| Cc.ca <| Cc.fn ["source", "canvas"] rfl (argn2 fun _ _ => rfl) fun L cells => ?_
  refine Xs.newL 2 fun d hd' => ?_
  have hsd : s ≠ d := fun e => by rw [e, hd'] at hs; cases hs
  have e0 : σ = σ.upd s (srcL a b) := (upd_same hs).symm
  rw [e0]
  refine Xs.for (It.rg1E b_range (Es.cons (Ev.add (De.ev De.num (Ev.fn f_law_take (Ds.es (Ds.cons (De.nm rfl) (Ds.cons De.num Ds.nil)) (Ca.mono (d_take (upd_get2 hsd) (by decide) (by decide)) fun p σ' hp => ?_)))))))
  obtain ⟨r, a', b', r0, r1, rfl, rfl⟩ := hp
  rw [upd_swap hsd]
  refine ⟨3, r, rfl, rfl, Es.nil ⟨_, rfl, by omega, ?_⟩⟩
  have hlen : (nums 0 (3 + r).toNat).length ≤ 4 ∧ 3 ≤ (nums 0 (3 + r).toNat).length := by rw [nums_length]; omega
  refine Loop.inv (I := fun k ρ σ' => (Some3 (fun u v z => [some (.at s), some (canvP l t wd ht rows), some (.at d), u, v, z, none, none, none, none]) ρ) ∧ E34 (fun (pts : List Pt) (a b : Int) => pts.length ≤ k) (fun (pts : List Pt) (a b : Int) => (0 < k → pts ≠ [])) (fun (pts : List Pt) (a b : Int) => (∀ p ∈ pts, p.1.natAbs < 2 ^ 10 ∧ p.2.natAbs < 2 ^ 10)) (fun (pts : List Pt) (a b : Int) => σ' = (σ.upd s (srcL a b)).upd d (.list (pts.map pairP)))) (fun k p ρ σ' hk hI => ?_) (fun ρ σ' hI => ?_) _ _ ⟨⟨none, none, none, rfl⟩, [], a', b', by simp, by simp, by simp, rfl⟩
  · obtain ⟨⟨u, v, z, rfl⟩, pts, a1, b1, g1, g2, g3, rfl⟩ := hI
    obtain ⟨hk', rfl⟩ := nums_get hk
    refine ⟨_, As.nm (i := 3), ?_⟩
    refine Xs.cons (Ex.assign (i := 4) rfl (Ev.add (De.ev (De.sub (De.mul De.num (De.fld (De.nm rfl) a_Canvas_left) (smallMul' (by decide))) De.num) (Ev.fn f_law_take (Ds.es (Ds.cons (De.nm rfl) (Ds.cons (De.add (De.mul De.num (De.fld (De.nm rfl) a_Canvas_width) (smallMul' (by decide))) De.num) Ds.nil)) (Ca.mono (d_take (upd_get2 hsd) (by omega) (by omega)) fun p σ' hp => ?_))))))
    obtain ⟨x, a2, b2, x0, x1, rfl, rfl⟩ := hp
    rw [upd_swap hsd]
    refine ⟨_, _, rfl, rfl, ?_⟩
    refine Xs.cons (Ex.assign (i := 5) rfl (Ev.tuple (Es.cons (De.ev (De.nm rfl) (Es.cons (Ev.add (De.ev (De.sub (De.mul De.num (De.fld (De.nm rfl) a_Canvas_top) (smallMul' (by decide))) De.num) (Ev.fn f_law_take (Ds.es (Ds.cons (De.nm rfl) (Ds.cons (De.add (De.mul De.num (De.fld (De.nm rfl) a_Canvas_height) (smallMul' (by decide))) De.num) Ds.nil)) (Ca.mono (d_take (upd_get2 hsd) (by omega) (by omega)) fun p σ' hp => ?_))))))))))
    obtain ⟨y, a3, b3, y0, y1, rfl, rfl⟩ := hp
    rw [upd_swap hsd]
    refine ⟨_, _, rfl, rfl, Es.nil ⟨show 2 ≤ 1000 by decide, ?_⟩⟩
    have hpt : (4 * l - 3 + x).natAbs < 2 ^ 10 ∧ (4 * t - 3 + y).natAbs < 2 ^ 10 := ⟨spot_small hl x0 x1 hw, spot_small ht' y0 y1 hh⟩
    refine Xs.ifs (Dt.or2 (Dt.cmpBy (De.nm rfl) (De.ls Ds.nil) (CmpTo.eqNil (l := pts.map pairP) (.inr ⟨d, rfl, upd_self⟩))) fun h => Dt.cmpBy (De.nm rfl) (De.itemAt (l := pts.map pairP) (k := -1) (j := pts.length - 1) (p := pairP (pts.getLastD (0, 0))) (De.nm rfl) (De.neg De.num) upd_self (by decide) (by decide) ?_ ?_) CmpTo.nePair) (fun h => ?_) fun h => ?_
    · have hne : pts ≠ [] := fun e => by subst e; cases h
      rw [List.length_map]
      exact seqIndex_end (List.length_pos_iff.mpr hne)
    · have hne : pts ≠ [] := fun e => by subst e; cases h
      rw [List.getElem?_map, get_last hne, List.getLastD_eq_getLast?, List.getLast?_eq_some_getLast hne]; rfl
    · refine Xs.app (pairP (4 * l - 3 + x, 4 * t - 3 + y)) (De.nm rfl) (De.nm rfl) (by rw [List.length_map]; omega) (Xs.nil (Xs.nil ⟨⟨_, _, _, rfl⟩, pts ++ [(4 * l - 3 + x, 4 * t - 3 + y)], a3, b3, by simp; omega, by simp, ?_, by rw [List.map_append]; rfl⟩))
      intro p hp
      rcases List.mem_append.mp hp with hp | hp
      · exact g3 p hp
      · rw [List.mem_singleton] at hp; subst hp; exact hpt
    · refine Xs.nil ⟨⟨_, _, _, rfl⟩, pts, a3, b3, by omega, fun _ => ?_, g3, rfl⟩
      intro e
      subst e
      simp at h
  · obtain ⟨⟨u, v, z, rfl⟩, pts, a1, b1, g1, g2, g3, rfl⟩ := hI
    have hne := g2 (by omega)
    have hp0 : 0 < pts.length := List.length_pos_iff.mpr hne
    refine Xs.ifJ (fun ρ' σ' => ρ' = [some (.at s), some (canvP l t wd ht rows), some (.at d), u, v, z, none, none, none, none] ∧ ∃ pts : List Pt, Drawn pts ∧ σ' = (σ.upd s (srcL a1 b1)).upd d (.list (pts.map pairP))) (Dt.and2 (Dt.cmp (De.bf Boot.len b_len (Ds.cons (De.nm rfl) Ds.nil) (Dc.lenA upd_self (by rw [List.length_map]; omega))) De.num) fun h => Dt.cmpBy (De.itemAt (l := pts.map pairP) (k := 0) (j := 0) (p := pairP (pts.headD (0, 0))) (De.nm rfl) De.num upd_self (by decide) (by decide) ?_ ?_) (De.itemAt (l := pts.map pairP) (k := -1) (j := pts.length - 1) (p := pairP (pts.getLastD (0, 0))) (De.nm rfl) (De.neg De.num) upd_self (by decide) (by decide) ?_ ?_) CmpTo.eqPair) (fun h => ?_) (fun h => ?_) fun ρ' σ' hJ => ?_
    · exact seqIndex_nat (k := 0) (by rw [List.length_map]; exact hp0)
    · cases pts with
      | nil => exact absurd rfl hne
      | cons q pts => rfl
    · rw [List.length_map]
      exact seqIndex_end hp0
    · rw [List.getElem?_map, get_last hne, List.getLastD_eq_getLast?, List.getLast?_eq_some_getLast hne]; rfl
    · have h1 : 1 < pts.length := by
        have := (Bool.and_eq_true_iff.mp h).1
        have : (1 : Int) < pts.length := by simpa [cmpI] using this
        omega
      obtain ⟨init, q, rfl⟩ : ∃ init q, pts = init ++ [q] := ⟨pts.dropLast, pts.getLast hne, (List.dropLast_concat_getLast hne).symm⟩
      rw [List.map_append]
      simp at h1 g1
      refine Xs.pop (De.nm rfl) (by rw [List.length_map]; omega) (Xs.nil ⟨rfl, init, ⟨fun e => by subst e; simp at h1, by omega, fun p hp => g3 p (List.mem_append_left _ hp)⟩, rfl⟩)
    · exact ⟨rfl, pts, ⟨hne, by omega, g3⟩, rfl⟩
    · obtain ⟨rfl, pts, hd2, rfl⟩ := hJ
      refine Xs.ret (Ev.tuple (Es.cons (Ev.bt Boot.tuple b_tuple (Ds.es (Ds.cons (De.nm rfl) Ds.nil) (Ca.tupleA upd_self (by rw [List.length_map]; have := hd2.few; omega) ?_)))))
      refine Es.cons (De.ev De.truth (Es.nil ⟨show 2 ≤ 1000 by decide, _, _, .sub _ (σ.upd s (srcL a1 b1)) fun r bx h => ?_, pts, a1, b1, rfl, hd2, by rw [upd_upd]⟩))
      have hd3 : (σ.upd s (srcL a1 b1)) d = none := by rw [upd_ne (fun e => hsd e.symm)]; exact hd'
      exact upd_old hd3 h
end
theorem leg_split (a b : Pt) (x y : Int) : ∃ (lo hi : Pt) (sg : Int), (if cmpI .Lt a.2 b.2 = true then PV.tup [pairP a, pairP b] else PV.tup [pairP b, pairP a]) = .tup [pairP lo, pairP hi] ∧ (if cmpI .Lt a.2 b.2 = true then PV.int 1 else PV.int (-1)) = .int sg ∧
    legV a b x y = (if lo.2 ≤ y ∧ y < hi.2 ∧ (hi.1 - lo.1) * (y - lo.2) ≤ (x - lo.1) * (hi.2 - lo.2) then sg else 0) ∧ (lo = a ∧ hi = b ∨ lo = b ∧ hi = a) := by
  by_cases h : a.2 < b.2
  · have hc : cmpI .Lt a.2 b.2 = true := by simpa [cmpI] using h
    refine ⟨a, b, 1, by rw [if_pos hc], by rw [if_pos hc], ?_, .inl ⟨rfl, rfl⟩⟩
    unfold legV; rw [if_pos h]
  · have hc : ¬ cmpI .Lt a.2 b.2 = true := by simpa [cmpI] using h
    refine ⟨b, a, -1, by rw [if_neg hc], by rw [if_neg hc], ?_, .inr ⟨rfl, rfl⟩⟩
    unfold legV; rw [if_neg h]
noncomputable def lawSum (cs : List (List Pt)) (x y : Int) : Int := (cs.map fun pts => lawWoundC pts x y).sum
theorem lawSum_eq (cs : List (List Pt)) (x y : Int) : lawSum cs x y = windS (sidesOf cs) x y := by
  unfold sidesOf
  induction cs with
  | nil => rfl
  | cons pts cs ih =>
    rw [List.flatMap_cons, windS_append, ← ih, ← law_wound_contour]
    unfold lawSum
    rw [List.map_cons, List.sum_cons]
noncomputable def legsTo (pts : List Pt) (x y : Int) (k : Nat) : Int := ((List.range k).map fun i => legV (pts.getD i (0, 0)) (pts.getD ((i + 1) % pts.length) (0, 0)) x y).sum
theorem legsTo_succ (pts : List Pt) (x y : Int) (k : Nat) : legsTo pts x y (k + 1) = legsTo pts x y k + legV (pts.getD k (0, 0)) (pts.getD ((k + 1) % pts.length) (0, 0)) x y := by
  unfold legsTo
  rw [List.range_succ, List.map_append, List.sum_append]
  simp
theorem fmod_nat (j m : Nat) : ((j : Int) + 1).fmod (m : Int) = (((j + 1) % m : Nat) : Int) := by
  rw [Int.fmod_eq_emod_of_nonneg _ (by (first | lia | omega))]
  rfl
theorem pts_item {pts : List Pt} {j : Nat} (h : j < pts.length) : (pts.map pairP)[j]? = some (pairP (pts.getD j (0, 0))) := by
  rw [List.getElem?_map, List.getElem?_eq_getElem h]
  simp [List.getD, h]
theorem pts_mem {pts : List Pt} {j : Nat} (h : j < pts.length) : pts.getD j (0, 0) ∈ pts := by
  simp [List.getD, h]
section
variable {prog : Program} {w : World} {c : Cx prog w (heapK w.params)} {n : Nat} {σ : Sto} {P : Params}
theorem d_law_wound {cs : List (List Pt)} {x y : Int} (hc : Conts cs) (hx : x.natAbs < 2 ^ 12) (hy : y.natAbs < 2 ^ 12) : Dc c (n + 1) (.ref 508) [contsP cs, .int x, .int y] σ (.int (windS (sidesOf cs) x y)) :=
  Cc.ca <| Cc.fn ["contours", "x", "y"] rfl (argn3 fun _ _ _ => rfl) fun L cells => by
    refine Xs.let 3 (.int 0) De.num ?_
    refine Xs.for (It.sq (De.nm rfl) (.inl rfl) (Loop.inv (I := fun k ρ σ' => (Some7 (fun v4 v5 v6 v7 v8 v9 v10 => [some (contsP cs), some (.int x), some (.int y), some (.int (lawSum (cs.take k) x y)), v4, v5, v6, v7, v8, v9, v10, none, none]) ρ) ∧ σ' = σ) (fun k p ρ σ1 hk hI => ?_) (fun ρ σ' hI => ?_) _ _ ⟨⟨none, none, none, none, none, none, none, rfl⟩, rfl⟩))
    · obtain ⟨⟨v4, v5, v6, v7, v8, v9, v10, rfl⟩, hσ⟩ := hI
      rw [hσ]; clear hσ
      rw [List.getElem?_map, Option.map_eq_some_iff] at hk
      obtain ⟨pts, hk, rfl⟩ := hk
      have hm := List.mem_of_getElem? hk
      have h1 := hc.one pts hm
      have hsm := hc.sm pts hm
      refine ⟨_, As.pr (.cons (As.nm (i := 4)) (.cons (As.nm (i := 5)) (.nil _))) ⟨rfl, rfl, trivial⟩, ?_⟩
      have hlen : (pts.map pairP).length = pts.length := List.length_map _
      refine Xs.for (It.rg1 (b := pts.length) b_range (Es.cons (De.ev (De.bf Boot.len b_len (Ds.cons (De.nm rfl) Ds.nil) (Dc.lenT (by omega))) (Es.nil ⟨by rw [hlen], ?_⟩))) (by omega))
      refine Loop.inv (I := fun j ρ σ' => (Some5 (fun v6 v7 v8 v9 v10 => [some (contsP cs), some (.int x), some (.int y), some (.int (lawSum (cs.take k) x y + legsTo pts x y j)), some (.tup (pts.map pairP)), some (.bool true), v6, v7, v8, v9, v10, none, none]) ρ) ∧ σ' = σ) (fun j p ρ σ' hj hI => ?_) (fun ρ σ' hI => ?_) _ _ ⟨⟨v6, v7, v8, v9, v10, ?_⟩, rfl⟩
      · obtain ⟨⟨v6, v7, v8, v9, v10, rfl⟩, hσ⟩ := hI
        rw [hσ]; clear hσ
        obtain ⟨hj', rfl⟩ := nums_get hj
        rw [Int.zero_add]
        have hj'' : j < pts.length := by omega
        have hq : (j + 1) % pts.length < pts.length := Nat.mod_lt _ (by omega)
        refine ⟨_, As.nm (i := 6), ?_⟩
        refine Xs.swap (xs := [Str.ofString "one", Str.ofString "two"]) (De.ev (pv := .tup [pairP (pts.getD j (0, 0)), pairP (pts.getD ((j + 1) % pts.length) (0, 0))]) (De.tp (Ds.cons (De.item (j := j) (De.nm rfl) (De.nm rfl) (by omega) (by omega) (by rw [hlen]; exact seqIndex_nat hj'') (pts_item hj'')) (Ds.cons (De.item (k := (((j + 1) % pts.length : Nat) : Int)) (j := (j + 1) % pts.length) (De.nm rfl) (De.is (De.fmod (De.add (De.nm rfl) De.num) (De.bf Boot.len b_len (Ds.cons (De.nm rfl) Ds.nil) (Dc.lenT (by omega))) (by omega)) (by rw [hlen, fmod_nat])) (by omega) (by omega) (by rw [hlen]; exact seqIndex_nat hq) (pts_item hq)) Ds.nil))) ⟨[pairP (pts.getD j (0, 0)), pairP (pts.getD ((j + 1) % pts.length) (0, 0))], _, rfl, rfl, .cons (i := 8) rfl (.inl rfl) (.cons (i := 7) rfl (.inl rfl) (.nil _)), ?_⟩)
        have ma := hsm _ (pts_mem hj'')
        have mb := hsm _ (pts_mem hq)
        have hstep := legsTo_succ pts x y j
        generalize pts.getD j (0, 0) = A at ma hstep
        generalize pts.getD ((j + 1) % pts.length) (0, 0) = B at mb hstep
        obtain ⟨lo, hi, sg, e1, e2, e3, e4⟩ := leg_split A B x y
        have mlo : lo.1.natAbs < 2 ^ 10 ∧ lo.2.natAbs < 2 ^ 10 := by rcases e4 with ⟨rfl, rfl⟩ | ⟨rfl, rfl⟩ <;> assumption
        have mhi : hi.1.natAbs < 2 ^ 10 ∧ hi.2.natAbs < 2 ^ 10 := by rcases e4 with ⟨rfl, rfl⟩ | ⟨rfl, rfl⟩ <;> assumption
        rw [e3] at hstep
        refine Xs.unpack (.tup [pairP lo, pairP hi]) (De.is (De.ifexp (Dt.cmp (De.snd (a := A) (De.nm rfl)) (De.snd (a := B) (De.nm rfl))) (fun _ => De.tp (Ds.cons (De.nm rfl) (Ds.cons (De.nm rfl) Ds.nil))) fun _ => De.tp (Ds.cons (De.nm rfl) (Ds.cons (De.nm rfl) Ds.nil))) e1) (As.pr (.cons (As.nm (i := 9)) (.cons (As.nm (i := 10)) (.nil _))) ⟨rfl, rfl, trivial⟩) ?_
        refine Xs.ifs (Dt.cmp2 (De.snd (a := lo) (De.nm rfl)) (De.nm rfl) (De.snd (a := hi) (De.nm rfl))) (fun h => ?_) fun h => ?_
        · have h' : lo.2 ≤ y ∧ y < hi.2 := by simpa [cmpI] using h
          refine Xs.ifs (Dt.cmp (De.mul (De.sub (De.nm rfl) (De.fst (a := lo) (De.nm rfl))) (De.sub (De.snd (a := hi) (De.nm rfl)) (De.snd (a := lo) (De.nm rfl))) (smallMul (abs_sub mhi.2 mlo.2))) (De.mul (De.sub (De.fst (a := hi) (De.nm rfl)) (De.fst (a := lo) (De.nm rfl))) (De.sub (De.nm rfl) (De.snd (a := lo) (De.nm rfl))) (smallMul (abs_sub hy mlo.2)))) (fun g => ?_) fun g => ?_
          · have g' : (hi.1 - lo.1) * (y - lo.2) ≤ (x - lo.1) * (hi.2 - lo.2) := by simpa [cmpI] using g
            rw [if_pos ⟨h'.1, h'.2, g'⟩] at hstep
            refine Xs.let 3 (.int (lawSum (cs.take k) x y + legsTo pts x y (j + 1))) (De.is (De.add (De.nm rfl) (De.is (De.ifexp (Dt.cmp (De.snd (a := A) (De.nm rfl)) (De.snd (a := B) (De.nm rfl))) (fun _ => De.num) fun _ => De.neg De.num) e2)) (by rw [hstep, Int.add_assoc])) (Xs.nil (Xs.nil (Xs.nil ⟨⟨_, _, _, _, _, rfl⟩, rfl⟩)))
          · have g' : ¬ (hi.1 - lo.1) * (y - lo.2) ≤ (x - lo.1) * (hi.2 - lo.2) := by simpa [cmpI] using g
            rw [if_neg (fun z => g' z.2.2), Int.add_zero] at hstep
            rw [← hstep]
            exact Xs.nil (Xs.nil ⟨⟨_, _, _, _, _, rfl⟩, rfl⟩)
        · have h' : ¬ (lo.2 ≤ y ∧ y < hi.2) := by simpa [cmpI] using h
          rw [if_neg (fun z => h' ⟨z.1, z.2.1⟩), Int.add_zero] at hstep
          rw [← hstep]
          exact Xs.nil ⟨⟨_, _, _, _, _, rfl⟩, rfl⟩
      · obtain ⟨⟨v6, v7, v8, v9, v10, rfl⟩, hσ⟩ := hI
        rw [hσ]; clear hσ
        have e : lawSum (cs.take (k + 1)) x y = lawSum (cs.take k) x y + legsTo pts x y (nums 0 (pts.length : Int).toNat).length := by
          unfold lawSum
          rw [List.take_add_one, hk, List.map_append, List.sum_append, nums_length]
          simp [lawWoundC, legsTo]
        rw [← e]
        exact Xs.nil ⟨⟨_, _, _, _, _, _, _, rfl⟩, rfl⟩
      · rw [show legsTo pts x y 0 = 0 from rfl, Int.add_zero]; rfl
    · obtain ⟨⟨v4, v5, v6, v7, v8, v9, v10, rfl⟩, rfl⟩ := hI
      refine Xs.give _ (De.nm rfl) ⟨?_, rfl⟩
      rw [List.length_map, List.take_length, lawSum_eq]
end
noncomputable def manyTo (cs : List (List Pt)) (e : Bool) (x y : Int) (k : Nat) : Int := ((List.range k).map fun (p : Nat) => sampleV cs e (4 * x + 1 + 2 * (p : Int).fmod 2) (4 * y + 1 + 2 * (p : Int).fdiv 2)).sum
theorem manyTo_succ (cs : List (List Pt)) (e : Bool) (x y : Int) (k : Nat) : manyTo cs e x y (k + 1) = manyTo cs e x y k + sampleV cs e (4 * x + 1 + 2 * (k : Int).fmod 2) (4 * y + 1 + 2 * (k : Int).fdiv 2) := by
  unfold manyTo
  rw [List.range_succ, List.map_append, List.sum_append]
  simp
theorem manyTo_four (cs : List (List Pt)) (e : Bool) (x y : Int) : manyTo cs e x y 4 = manyV cs e x y := by
  rw [manyTo_succ, manyTo_succ, manyTo_succ, manyTo_succ]
  unfold manyV
  rw [show manyTo cs e x y 0 = 0 from rfl, show ((0 : Nat) : Int).fmod 2 = 0 from rfl, show ((0 : Nat) : Int).fdiv 2 = 0 from rfl, show ((1 : Nat) : Int).fmod 2 = 1 from rfl, show ((1 : Nat) : Int).fdiv 2 = 0 from rfl, show ((2 : Nat) : Int).fmod 2 = 0 from rfl, show ((2 : Nat) : Int).fdiv 2 = 1 from rfl, show ((3 : Nat) : Int).fmod 2 = 1 from rfl, show ((3 : Nat) : Int).fdiv 2 = 1 from rfl]
  rw [show 4 * x + 1 + 2 * 0 = 4 * x + 1 by (first | lia | omega), show 4 * y + 1 + 2 * 0 = 4 * y + 1 by (first | lia | omega), show 4 * x + 1 + 2 * 1 = 4 * x + 3 by (first | lia | omega), show 4 * y + 1 + 2 * 1 = 4 * y + 3 by (first | lia | omega)]
  (first | lia | omega)
theorem law_inside (e : Bool) (wi : Int) : (if (ruleS e == Str.ofString "evenodd") = true then PV.bool (cmpI .NotEq (wi.fmod 2) 0) else PV.bool (cmpI .NotEq wi 0)) = .bool (insideV wi (ruleS e)) := by
  cases e
  · rw [if_neg (by decide +kernel)]
    unfold insideV
    rw [if_pos (by decide +kernel)]; rfl
  · rw [if_pos (by decide +kernel)]
    unfold insideV
    rw [if_neg (by decide +kernel)]; rfl
section
variable {prog : Program} {w : World} {c : Cx prog w (heapK w.params)} {n : Nat} {σ : Sto} {P : Params}
theorem grain_small {x k : Int} (hx : x.natAbs < 200) (h0 : 0 ≤ k) (h1 : k ≤ 2) : (4 * x + 1 + 2 * k).natAbs < 2 ^ 12 := by omega
theorem d_law_dot {wo : Str} {cs : List (List Pt)} {e : Bool} {col0 col b : Col} {op let_ x y : Int} {k : Option ClipV} (hc : Conts cs) (hx : x.natAbs < 200) (hy : y.natAbs < 200) (hcol : ColOk col) (ho : 0 ≤ op ∧ op ≤ 255) (hl : 0 ≤ let_ ∧ let_ ≤ 255) :
    Dc c (n + 2) (.ref 520) [opP wo cs e col0 op k, .int let_, colP col, colP b, .int x, .int y] σ (colP (dotV (manyV cs e x y) op let_ col b)) :=
  Cc.ca <| Cc.fn ["op", "let", "colour", "below", "x", "y"] rfl (argn6 fun _ _ _ _ _ _ => rfl) fun L cells => by
    refine Xs.let 6 (.int 0) De.num ?_
    refine Xs.for (It.rg1 (b := 4) b_range (Es.cons (De.ev De.num (Es.nil ⟨rfl, ?_⟩))) (by decide))
    refine Loop.inv (I := fun j ρ σ' => (Some2 (fun u v => [some (opP wo cs e col0 op k), some (.int let_), some (colP col), some (colP b), some (.int x), some (.int y), some (.int (manyTo cs e x y j)), u, v, none, none, none, none, none, none, none, none]) ρ) ∧ σ' = σ) (fun j p ρ σ1 hj hI => ?_) (fun ρ σ' hI => ?_) _ _ ⟨⟨none, none, rfl⟩, rfl⟩
    · obtain ⟨⟨u, v, rfl⟩, hσ⟩ := hI
      rw [hσ]; clear hσ
      obtain ⟨hj', rfl⟩ := nums_get hj
      rw [Int.zero_add]
      have hj2 := fmod_in (x := (j : Int)) (m := 2) (by decide)
      have hj3 : 0 ≤ (j : Int).fdiv 2 ∧ (j : Int).fdiv 2 ≤ 2 := by rw [Int.fdiv_eq_ediv_of_nonneg _ (by decide)]; omega
      refine ⟨_, As.nm (i := 7), ?_⟩
      refine Xs.let 8 (.int (windS (sidesOf cs) (4 * x + 1 + 2 * (j : Int).fmod 2) (4 * y + 1 + 2 * (j : Int).fdiv 2))) (De.fn f_law_wound (Ds.cons (De.item (j := 1) (De.nm rfl) De.num (by decide) (by decide) rfl rfl) (Ds.cons (De.add (De.add (De.mul De.num (De.nm rfl) (smallMul' (by decide))) De.num) (De.mul De.num (De.fmod (De.nm rfl) De.num (by decide)) (smallMul' (by decide)))) (Ds.cons (De.add (De.add (De.mul De.num (De.nm rfl) (smallMul' (by decide))) De.num) (De.mul De.num (De.fdiv (De.nm rfl) De.num (by decide) (smallDiv (by decide))) (smallMul' (by decide)))) Ds.nil))) (d_law_wound hc (grain_small hx hj2.1 (Int.le_of_lt hj2.2)) (grain_small hy hj3.1 hj3.2))) ?_
      refine Xs.let 6 (.int (manyTo cs e x y (j + 1))) (De.is (De.add (De.nm rfl) (De.bt Boot.int b_int (Ds.cons (De.is (De.ifexp (Dt.eqStr (De.item (j := 2) (De.nm rfl) De.num (by decide) (by decide) rfl rfl) De.text) (fun _ => De.cmp (De.fmod (De.nm rfl) De.num (by decide)) De.num) (fun _ => De.cmp (De.nm rfl) De.num)) (law_inside e _)) Ds.nil) Dc.intB)) ?_) (Xs.nil ⟨⟨_, _, rfl⟩, rfl⟩)
      rw [manyTo_succ]; rfl
    · obtain ⟨⟨u, v, rfl⟩, hσ⟩ := hI
      rw [hσ]; clear hσ
      have hm : manyTo cs e x y (nums 0 (4 : Int).toNat).length = manyV cs e x y := by rw [nums_length]; exact manyTo_four cs e x y
      rw [hm]
      have hmr := @many_range cs e x y
      have hal := alpha_range hmr.1 hmr.2 ho.1 ho.2 hl.1 hl.2
      refine Xs.let 9 (.int (alphaV (manyV cs e x y) op let_)) (De.fn f_law_times (Ds.cons (De.fn f_law_times (Ds.cons (De.fdiv (De.add (De.mul (De.mul De.num De.num (smallMul (by decide))) (De.nm rfl) (smallMul' (by decide))) De.num) De.num (by decide) (smallDiv (by decide))) (Ds.cons (De.item (j := 4) (De.nm rfl) De.num (by decide) (by decide) rfl rfl) Ds.nil)) (d_law_times (by omega))) (Ds.cons (De.nm rfl) Ds.nil)) (d_law_times (by omega))) ?_
      have hthin := (thin_ok hcol hal.1 hal.2).c3
      unfold dotV
      generalize alphaV (manyV cs e x y) op let_ = al at hal hthin
      refine Xs.cons (Ex.assign (i := 10) rfl (Ev.comp [none, none, none, some 9] (It.sq (De.nm rfl) (.inr rfl) fun C cl => ?_)))
      refine CL.mapInts (i := 1) (a := colL col) (fun u => weightedV u al) rfl (show 4 ≤ 100000 by decide) (fun u hu => De.fn f_law_times (Ds.cons (De.nm rfl) (Ds.cons (De.nm rfl) Ds.nil)) (d_law_times (by omega))) fun ρ => ?_
      have et : intsP ((colL col).map fun u => weightedV u al) = intsP (colL (thinV col al)) := rfl
      rw [et]
      generalize thinV col al = th at hthin
      refine Xs.ret (De.ev (pv := colP (layV th b)) (De.bt Boot.tuple b_tuple (l := [.lst (intsP (colL (layV th b)))]) (Ds.cons ?_ Ds.nil) (Dc.tupleL (show 4 ≤ 1000000 by decide))) ⟨rfl, rfl⟩)
      refine Ev.comp [none, none, none, none, some 10] (It.zp b_zip (Ds.cons (De.nm rfl) (Ds.cons (De.nm rfl) Ds.nil)) (.inl rfl) (.inr rfl) fun C cl => ?_)
      refine CL.zip2 (i := 1) (j := 2) (a := colL th) (b := colL b) (fun x y => x + weightedV y (255 - th.2.2.2)) rfl rfl (by decide) (show 4 ≤ 100000 by decide) (fun u v hu hv => ?_) fun ρ => ⟨rfl, rfl⟩
      exact De.add (De.nm rfl) (De.fn f_law_times (Ds.cons (De.nm rfl) (Ds.cons (De.sub De.num (De.itemL (l := intsP (colL th)) (j := 3) (De.nm rfl) De.num (by decide) (by decide) rfl rfl)) Ds.nil)) (d_law_times (by omega)))
end
section
variable {prog : Program} {w : World} {K : Frag} {c : Cx prog w K} {n : Nat} {env : Env} {ρ : List (Option PV)} {σ : Sto}
theorem Ev.addL {l r : PySem.Expr} {pos : Pos} {Q : PV → Sto → Prop} (h : Ev c n env l ρ σ fun x σ₁ => Ev c n env r ρ σ₁ fun y σ₂ => ∃ p q, x = .lst p ∧ y = .lst q ∧ p.length + q.length ≤ 1000000 ∧ Q (.lst (p ++ q)) σ₂) : Ev c n env (.BinOp l .Add r pos) ρ σ Q := fun A X s rm S R =>
  wpAny_BinOp (twoE h rm S R fun x y σ' v u s' rv ru S' R' ⟨p, q, e1, e2, hz, hq⟩ => by
    subst e1; subst e2
    obtain ⟨a, vs, k, rfl, _, ho, r1⟩ := rv.lst_inv
    obtain ⟨b, ws, k', rfl, _, ho', r2⟩ := ru.lst_inv
    have hsz : vs.toArray.size + ws.toArray.size ≤ sizeLine := by
      have h1 := r1.length
      have h2 := r2.length
      have : sizeLine = 16777216 := by decide
      simp; (first | lia | omega)
    have e : vs.toArray ++ ws.toArray = (vs ++ ws).toArray := by simp
    refine concat_meets ⟨_, ho, rfl⟩ ⟨_, ho', rfl⟩ noFill_list_add seq_list_add PySem.F.slot_list_add PySem.F.entry_list_add (PySem.F.args_list_add_2 _ _) (list_addW a b vs.toArray ws.toArray k k' none none #[] #[] hsz) ⟨ho, ho', ?_⟩
    rw [e]
    refine EPost.grown (tk := s'.toks) S' R' (push_stays _ _) ?_ hq
    simp only [Rep]
    have st := stay_ext (bad := Bad X σ') (push_stays s'.heap { cls := .type "list", data := .seq (vs ++ ws).toArray })
    exact ⟨_, vs ++ ws, 0, rfl, good_new S', Heap.get?_push_size _ rfl, (r1.stay st).append (r2.stay st)⟩)
end
theorem byte_pick {l : List Int} (hl : ∀ u ∈ l, 0 ≤ u ∧ u ≤ 255) {r : Nat} {p : PV} (h : (intsP l)[r]? = some p) : ∃ u, p = .int u ∧ 0 ≤ u ∧ u ≤ 255 := by
  unfold intsP at h
  rw [List.getElem?_map, Option.map_eq_some_iff] at h
  obtain ⟨u, hu, rfl⟩ := h
  exact ⟨u, rfl, hl u (List.mem_of_getElem? hu)⟩
section
variable {prog : Program} {w : World} {c : Cx prog w (heapK w.params)} {n : Nat} {σ : Sto} {P : Params}
inductive ColPost (σ : Sto) (s : Addr) (p : PV) (σ' : Sto) : Prop
  | mk (col : Col) (a' b' : Int) (h : ColOk col) (e : p = colP col) (e' : σ' = σ.upd s (srcL a' b'))
theorem d_law_colour {s : Addr} {a b : Int} (hs : σ s = some (srcL a b)) : Ca c (n + 3) (.ref 525) [.at s] σ (ColPost σ s) :=
  Cc.ca <| Cc.fn ["source"] rfl (argn1 fun _ => rfl) fun L cells => by
    refine Xs.cons (Ex.assign (i := 1) rfl (Ev.fn f_law_one (Ds.es (Ds.cons (De.nm rfl) (Ds.cons (De.ls (l := intsP [0, 255, 128, 77]) (Ds.cons De.num (Ds.cons De.num (Ds.cons De.num (Ds.cons De.num Ds.nil))))) Ds.nil)) (Ca.mono (d_one hs (fun h => nomatch h) (show 4 ≤ 1000 by decide)) fun p σ' hp => ?_))))
    obtain ⟨r, a', b', hr, rfl⟩ := hp
    obtain ⟨al, rfl, h0, h1⟩ := byte_pick (by decide) hr
    refine Xs.ret (Ev.bt Boot.tuple b_tuple (Es.cons (Ev.addL ?_)))
    refine Ev.comp [none, none, none, some 1, some 0] (It.rg1 (b := 3) b_range (Es.cons (De.ev De.num (Es.nil ⟨rfl, fun C cl => ?_⟩))) (by decide))
    refine CL.inv (tgt := fun p ρ => ρ.set 1 (some p)) (I := fun k acc σ' => E34 (fun (us : List Int) (a b : Int) => acc = intsP us) (fun (us : List Int) (a b : Int) => us.length = k) (fun (us : List Int) (a b : Int) => (∀ u ∈ us, 0 ≤ u ∧ u ≤ 255)) (fun (us : List Int) (a b : Int) => σ' = σ.upd s (srcL a b))) _ (fun p ρ _ => As.name rfl (.inl rfl)) (fun p q ρ _ _ => List.set_set ..) (fun k p acc σ1 hk hI => ?_) (fun acc ρ σ1 hI => ?_) _ _ ⟨[], a', b', rfl, rfl, by simp, rfl⟩
    · obtain ⟨us, a1, b1, rfl, hl, hu, rfl⟩ := hI
      obtain ⟨hk', rfl⟩ := nums_get hk
      refine ⟨true, rfl, fun _ => ⟨by unfold intsP; rw [List.length_map]; have : k < 3 := hk'; (first | lia | omega), ?_⟩, fun h => nomatch h⟩
      refine Ev.fn f_law_take (Ds.es (Ds.cons (De.nm rfl) (Ds.cons (De.add (De.nm rfl) De.num) Ds.nil)) (Ca.mono (d_take upd_self (by (first | lia | omega)) (by (first | lia | omega))) fun p σ' hp => ?_))
      obtain ⟨x, a2, b2, x0, x1, rfl, rfl⟩ := hp
      refine ⟨us ++ [x], a2, b2, by unfold intsP; rw [List.map_append]; rfl, by rw [List.length_append, hl]; rfl, ?_, by rw [upd_upd]⟩
      intro u hm
      rcases List.mem_append.mp hm with hm | hm
      · exact hu u hm
      · rw [List.mem_singleton] at hm; subst hm; (first | lia | omega)
    · obtain ⟨us, a1, b1, rfl, hl, hu, rfl⟩ := hI
      have hl3 : us.length = 3 := by rw [hl, nums_length]; rfl
      match us, hl3, hu with
      | [c0, c1, c2], _, hu =>
        refine De.ev (De.ls (Ds.cons (De.nm rfl) Ds.nil)) ⟨_, _, rfl, rfl, show 3 + 1 ≤ 1000000 by decide, Es.nil (Dc.ca (Dc.tupleL (show 4 ≤ 1000000 by decide)) ⟨(c0, c1, c2, al), a1, b1, ⟨hu c0 (by simp), hu c1 (by simp), hu c2 (by simp), h0, h1⟩, rfl, rfl⟩)⟩
structure Clipped (s : Addr) (k : Option ClipV) (F : Int → Int → Sto) : Prop where
  src : ∀ a b, F a b s = some (srcL a b)
  upd : ∀ a b a' b', (F a b).upd s (srcL a' b') = F a' b'
  clip : ∀ a b, ClipIn (F a b) k
inductive ClipPost (s : Addr) (p : PV) (σ' : Sto) : Prop
  | mk (k : Option ClipV) (F : Int → Int → Sto) (h : Clipped s k F) (e : p = clipP k) (a b : Int) (e' : σ' = F a b)
theorem d_law_clip {s : Addr} {a b l t wd ht : Int} {rows : List Addr} (hs : σ s = some (srcL a b)) (h0 : 1 < wd) (hw : wd ≤ 100) (h0' : 0 < ht) (hh : ht ≤ 100) (hl : l.natAbs < 100) (ht' : t.natAbs < 100) :
    Ca c (n + 3) (.ref 537) [.at s, canvP l t wd ht rows] σ (ClipPost s) :=
  Cc.ca <| Cc.fn ["source", "canvas"] rfl (argn2 fun _ _ => rfl) fun L cells => by
    refine Xs.ifE (Te.cmp (Ev.fn f_law_take (Ds.es (Ds.cons (De.nm rfl) (Ds.cons De.num Ds.nil)) (Ca.mono (d_take hs (by decide) (by decide)) fun p σ' hp => ?_))))
    obtain ⟨r, a1, b1, r0, r1, rfl, rfl⟩ := hp
    refine De.ev De.num ⟨_, _, rfl, rfl, fun h => ?_, fun h => ?_⟩
    · exact Xs.give .none De.nothing ⟨none, fun a b => σ.upd s (srcL a b), ⟨fun a b => upd_self, fun a b a' b' => upd_upd, fun a b => trivial⟩, rfl, a1, b1, rfl⟩
    · refine Xs.cons (Ex.assign (i := 2) rfl (Ev.fn f_AlphaMap (Es.cons (De.ev (De.fld (De.nm rfl) a_Canvas_left) (Es.cons (De.ev (De.fld (De.nm rfl) a_Canvas_top) (Es.cons (Ev.sub (De.ev (De.fld (De.nm rfl) a_Canvas_width) (Ev.fn f_law_take (Ds.es (Ds.cons (De.nm rfl) (Ds.cons De.num Ds.nil)) (Ca.mono (d_take upd_self (by decide) (by decide)) fun p σ' hp => ?_))))))))))))
      obtain ⟨z, a2, b2, z0, z1, rfl, rfl⟩ := hp
      rw [upd_upd]
      refine ⟨_, _, rfl, rfl, Es.cons (De.ev (De.fld (De.nm rfl) a_Canvas_height) (Es.nil (Ca.mono (d_AlphaMap (by (first | lia | omega)) (by (first | lia | omega)) (by (first | lia | omega)) (by (first | lia | omega))) fun p σ' hp => ?_)))⟩
      obtain ⟨rs, rfl, hr, hn, hf, rfl⟩ := hp
      have hsr : s ∉ rs := fun hm => by have := hf s hm; rw [upd_self] at this; cases this
      obtain ⟨v, hv⟩ : ∃ v, v = wd - z := ⟨_, rfl⟩
      rw [← hv]
      have hv1 : 0 ≤ v ∧ v ≤ 100 := by (first | lia | omega)
      clear hv
      have hup : ∀ a b a' b' G, (gridS (σ.upd s (srcL a b)) l t v rs G).upd s (srcL a' b') = gridS (σ.upd s (srcL a' b')) l t v rs G := fun a b a' b' G => by
        unfold gridS
        rw [rowsAt_upd hsr, upd_upd]
      have hsrc : ∀ a b G, gridS (σ.upd s (srcL a b)) l t v rs G s = some (srcL a b) := fun a b G => (rowsAt_not hsr).trans upd_self
      refine Xs.for (It.rg2 b_range (Ds.cons (De.fld (De.nm rfl) a_AlphaMap_top) (Ds.cons (De.add (De.fld (De.nm rfl) a_AlphaMap_top) (De.fld (De.nm rfl) a_AlphaMap_height)) Ds.nil)) (by (first | lia | omega)) (by (first | lia | omega)) (Loop.inv (I := fun j ρ σ' => (Some2 (fun u v' => [some (.at s), some (canvP l t wd ht rows), some (amapP l t v ht rs), u, v', none, none, none, none]) ρ) ∧ ∃ a b g, (∀ x y, 0 ≤ g x y ∧ g x y ≤ 255) ∧ σ' = gridS (σ.upd s (srcL a b)) l t v rs fun x y => .int (g x y)) (fun j p ρ σ1 hj hI => ?_) (fun ρ σ1 hI => ?_) _ _ ⟨⟨none, none, rfl⟩, a2, b2, fun _ _ => 0, fun x y => ⟨Int.le_refl 0, show (0 : Int) ≤ 255 by decide⟩, rfl⟩))
      · obtain ⟨⟨u, v', rfl⟩, a3, b3, g, hg, rfl⟩ := hI
        obtain ⟨hj', rfl⟩ := nums_get hj
        refine ⟨_, As.nm (i := 3), ?_⟩
        refine Xs.for (It.rg2 b_range (Ds.cons (De.fld (De.nm rfl) a_AlphaMap_left) (Ds.cons (De.add (De.fld (De.nm rfl) a_AlphaMap_left) (De.fld (De.nm rfl) a_AlphaMap_width)) Ds.nil)) (by (first | lia | omega)) (by (first | lia | omega)) (Loop.inv (I := fun i ρ σ' => (Some1 (fun v' => [some (.at s), some (canvP l t wd ht rows), some (amapP l t v ht rs), some (.int (t + j)), v', none, none, none, none]) ρ) ∧ ∃ a b g, (∀ x y, 0 ≤ g x y ∧ g x y ≤ 255) ∧ σ' = gridS (σ.upd s (srcL a b)) l t v rs fun x y => .int (g x y)) (fun i p ρ σ1 hi hI => ?_) (fun ρ σ1 hI => ?_) _ _ ⟨⟨_, rfl⟩, a3, b3, g, hg, rfl⟩))
        · obtain ⟨⟨v', rfl⟩, a4, b4, g, hg, rfl⟩ := hI
          obtain ⟨hi', rfl⟩ := nums_get hi
          refine ⟨_, As.nm (i := 4), ?_⟩
          refine Xs.cons (Ex.expr (Ev.meth (De.nm rfl) m_AlphaMap_put (by decide) (Es.cons (De.ev (De.nm rfl) (Es.cons (De.ev (De.nm rfl) (Es.cons (Ev.fn f_law_one (Ds.es (Ds.cons (De.nm rfl) (Ds.cons (De.ls (l := intsP [255, 0, 128, 50]) (Ds.cons De.num (Ds.cons De.num (Ds.cons De.num (Ds.cons De.num Ds.nil))))) Ds.nil)) (Ca.mono (d_one (hsrc _ _ _) (fun h => nomatch h) (show 4 ≤ 1000 by decide)) fun p σ' hp => ?_))))))))))
          obtain ⟨r, a5, b5, hr', rfl⟩ := hp
          obtain ⟨al, rfl, c0, c1⟩ := byte_pick (by decide) hr'
          rw [hup]
          refine Es.nil (Ca.mono (d_amap_put hr hn (by (first | lia | omega)) (by (first | lia | omega)) (by (first | lia | omega)) (by (first | lia | omega)) (by (first | lia | omega)) (by (first | lia | omega)) c0 c1) fun p σ' hp => ?_)
          obtain ⟨rfl, rfl⟩ := hp
          refine Xs.nil ⟨⟨_, rfl⟩, a5, b5, _, fun x y => ?_, rfl⟩
          split
          · exact ⟨c0, c1⟩
          · exact hg x y
        · obtain ⟨⟨v', rfl⟩, a4, b4, g, hg, rfl⟩ := hI
          exact Xs.nil ⟨⟨_, _, rfl⟩, a4, b4, g, hg, rfl⟩
      · obtain ⟨⟨u, v', rfl⟩, a3, b3, g, hg, rfl⟩ := hI
        refine Xs.give _ (De.nm rfl) ⟨some ⟨l, t, v, ht, rs, g⟩, fun a b => gridS (σ.upd s (srcL a b)) l t v rs fun x y => .int (g x y), ⟨fun a b => hsrc _ _ _, fun a b a' b' => hup _ _ _ _ _, fun a b => ⟨gridS_in hr hn, show v ≤ 1000 by (first | lia | omega), show ht ≤ 1000 by (first | lia | omega), hg⟩⟩, rfl, a3, b3, rfl⟩
end
noncomputable def ptKey (p : Pt) : List Int := [p.1, p.2]
noncomputable def keysV (l t wd ht : Int) : List (List Int) := (placesV l t wd ht).map ptKey
noncomputable def colsV (l t wd ht : Int) (D : Int → Int → Col) : List PV := (placesV l t wd ht).map fun p => colP (D p.1 p.2)
theorem places_in {l t wd ht : Int} {p : Pt} : p ∈ placesV l t wd ht ↔ l ≤ p.1 ∧ p.1 < l + wd ∧ t ≤ p.2 ∧ p.2 < t + ht := by
  unfold placesV rowPts
  constructor
  · intro h
    obtain ⟨j, hj, h⟩ := List.mem_flatMap.mp h
    obtain ⟨i, hi, rfl⟩ := List.mem_map.mp h
    exact ⟨Int.le_add_of_nonneg_right (Int.natCast_nonneg i), Int.add_lt_add_left (Int.lt_toNat.mp (List.mem_range.mp hi)) _, Int.le_add_of_nonneg_right (Int.natCast_nonneg j), Int.add_lt_add_left (Int.lt_toNat.mp (List.mem_range.mp hj)) _⟩
  · intro h
    have e1 : ((p.1 - l).toNat : Int) = p.1 - l := Int.toNat_of_nonneg (Int.sub_nonneg_of_le h.1)
    have e2 : ((p.2 - t).toNat : Int) = p.2 - t := Int.toNat_of_nonneg (Int.sub_nonneg_of_le h.2.2.1)
    refine List.mem_flatMap.mpr ⟨(p.2 - t).toNat, List.mem_range.mpr (Int.lt_toNat.mpr (by rw [e2]; exact Int.sub_left_lt_of_lt_add h.2.2.2)), List.mem_map.mpr ⟨(p.1 - l).toNat, List.mem_range.mpr (Int.lt_toNat.mpr (by rw [e1]; exact Int.sub_left_lt_of_lt_add h.2.1)), Prod.ext ?_ ?_⟩⟩
    · show l + ((p.1 - l).toNat : Int) = p.1; rw [e1, Int.add_comm, Int.sub_add_cancel]
    · show t + ((p.2 - t).toNat : Int) = p.2; rw [e2, Int.add_comm, Int.sub_add_cancel]
theorem places_nd {l t wd ht : Int} : (placesV l t wd ht).Nodup := by
  unfold placesV rowPts
  refine List.pairwise_flatMap.mpr ⟨fun j _ => List.pairwise_map.mpr (List.nodup_range.imp fun {a b} h e => ?_), List.nodup_range.imp fun {a b} h x hx y hy e => ?_⟩
  · have := congrArg Prod.fst e
    dsimp only at this
    exact h (by omega)
  · obtain ⟨i, _, rfl⟩ := List.mem_map.mp hx
    obtain ⟨i', _, rfl⟩ := List.mem_map.mp hy
    have := congrArg Prod.snd e
    dsimp only at this
    exact h (by omega)
theorem keys_nd {l t wd ht : Int} : (keysV l t wd ht).Nodup := by
  unfold keysV
  refine List.pairwise_map.mpr (places_nd.imp fun {a b} h e => h ?_)
  simp only [ptKey, List.cons.injEq, and_true] at e
  exact Prod.ext e.1 e.2
theorem places_len {l t wd ht : Int} : (placesV l t wd ht).length = ht.toNat * wd.toNat := placesTo_len
theorem pairsP_map {α : Type} (a : α → List Int) (b : α → PV) : ∀ L : List α, pairsP (L.map a) (L.map b) = L.map fun q => .tup [.tup (intsP (a q)), b q]
  | [] => rfl
  | q :: L => by
    have := pairsP_map a b L
    unfold pairsP at *
    rw [List.map_cons, List.map_cons, List.zipWith_cons_cons, this]; rfl
noncomputable def laidTo (L : List Pt) (g : Int → Int → Col) (k : Nat) (x y : Int) : Col := if (x, y) ∈ L.take k then g x y else (0, 0, 0, 0)
theorem laid_step {L : List Pt} {g : Int → Int → Col} {k : Nat} {q : Pt} (h : L[k]? = some q) : (fun x' y' => if x' = q.1 ∧ y' = q.2 then colP (g q.1 q.2) else colP (laidTo L g k x' y')) = fun x' y' => colP (laidTo L g (k + 1) x' y') := by
  funext x y
  unfold laidTo
  rw [List.take_add_one, h]
  by_cases e : x = q.1 ∧ y = q.2
  · obtain ⟨rfl, rfl⟩ := e
    rw [if_pos ⟨rfl, rfl⟩, if_pos (by simp)]
  · rw [if_neg e]
    have : (x, y) ∈ L.take k ++ (some q).toList ↔ (x, y) ∈ L.take k := by
      simp only [Option.toList_some, List.mem_append, List.mem_singleton]
      constructor
      · rintro (h | h)
        · exact h
        · exact absurd ⟨congrArg Prod.fst h, congrArg Prod.snd h⟩ e
      · exact .inl
    simp only [this]
section
variable {prog : Program} {w : World} {c : Cx prog w (heapK w.params)} {n : Nat} {σ : Sto} {P : Params}
noncomputable def GroundsOf (ks : List (List Int)) (ls : List PV) (l t wd ht : Int) (g : Int → Int → Col) : Prop := ∀ x y, l ≤ x → x < l + wd → t ≤ y → y < t + ht → ∃ j : Nat, ks[j]? = some [x, y] ∧ ls[j]? = some (colP (g x y))
theorem d_law_filled {wo : Str} {cs : List (List Pt)} {e : Bool} {col : Col} {op l t wd ht : Int} {k : Option ClipV} {g : Int → Int → Col} {ks : List (List Int)} {ls : List PV} (hc : Conts cs) (hz : (sidesOf cs).length < 64) (h0 : 0 < wd) (hw : wd ≤ 100) (h0' : 0 < ht) (hh : ht ≤ 100) (hl : l.natAbs < 100) (ht' : t.natAbs < 100)
    (hcol : ColOk col) (ho : 0 ≤ op ∧ op ≤ 255) (hk : ClipIn σ k) (hg : GroundsOf ks ls l t wd ht g) :
    Ca c (n + 9) (.ref 530) [opP wo cs e col op k, colP (l, t, wd, ht), .dct ks ls] σ (FillPost σ (.dict (keysV l t wd ht) (colsV l t wd ht fun x y => dotV (manyV cs e x y) op (letV k x y) col (g x y)))) := by
  refine Ca.frz <| Cc.ca <| Cc.fn ["op", "rectangle", "grounds"] rfl (argn3 fun _ _ _ => rfl) fun L cells => ?_
  refine Xs.cons (Ex.assign (i := 3) rfl (Ev.fn f_Canvas (Ds.es (l := [.int wd, .int ht, .int l, .int t]) (Ds.cons (De.c2 (a := (l, t, wd, ht)) (De.nm rfl)) (Ds.cons (De.c3 (a := (l, t, wd, ht)) (De.nm rfl)) (Ds.cons (De.c0 (a := (l, t, wd, ht)) (De.nm rfl)) (Ds.cons (De.c1 (a := (l, t, wd, ht)) (De.nm rfl)) Ds.nil)))) (Ca.mono (d_Canvas (n := n + 6) h0 (by (first | lia | omega)) h0' (by (first | lia | omega))) fun p σ' hp => ?_))))
  obtain ⟨rows, rfl, hr, hn, hf, rfl⟩ := hp
  have hpl : (placesV l t wd ht).length ≤ 10000 := by
    rw [places_len]
    exact (Nat.mul_le_mul (show ht.toNat ≤ 100 by (first | lia | omega)) (show wd.toNat ≤ 100 by (first | lia | omega)) : ht.toNat * wd.toNat ≤ 100 * 100)
  refine Xs.for (It.sq (De.meth0 (De.nm rfl) m_Canvas_places (by decide) (d_places (by (first | lia | omega)) (by (first | lia | omega)) (by (first | lia | omega)) hw (by (first | lia | omega)) hh)) (.inl rfl) (Loop.inv (I := fun j ρ σ' => (Some1 (fun u => [some (opP wo cs e col op k), some (colP (l, t, wd, ht)), some (.dct ks ls), some (canvP l t wd ht rows), u, none, none, none]) ρ) ∧ σ' = gridS σ l t wd rows fun x y => colP (laidTo (placesV l t wd ht) g j x y)) (fun j p ρ σ1 hj hI => ?_) (fun ρ σ1 hI => ?_) _ _ ⟨⟨none, rfl⟩, ?_⟩))
  · obtain ⟨⟨u, rfl⟩, rfl⟩ := hI
    rw [List.getElem?_map, Option.map_eq_some_iff] at hj
    obtain ⟨q, hq, rfl⟩ := hj
    obtain ⟨q1, q2, q3, q4⟩ := places_in.mp (List.mem_of_getElem? hq)
    obtain ⟨i, hi1, hi2⟩ := hg q.1 q.2 q1 q2 q3 q4
    refine ⟨_, As.nm (i := 4), ?_⟩
    refine Xs.cons (Ex.expr (Ev.meth (De.nm rfl) m_Canvas_put (by decide) (Ds.es (Ds.cons (De.fst (a := q) (De.nm rfl)) (Ds.cons (De.snd (a := q) (De.nm rfl)) (Ds.cons (De.dictGet (d := .dct ks ls) (k := [q.1, q.2]) (De.nm rfl) (De.nm rfl) (.inl rfl) hi1 hi2) Ds.nil))) (Ca.mono (d_put hr hn q1 q2 q3 q4 (by (first | lia | omega)) (by (first | lia | omega))) fun p σ' hp => ?_))))
    obtain ⟨rfl, rfl⟩ := hp
    refine Xs.nil ⟨⟨_, rfl⟩, ?_⟩
    congr 1
    exact laid_step hq
  · obtain ⟨⟨u, rfl⟩, rfl⟩ := hI
    have eg : (gridS σ l t wd rows fun x y => colP (laidTo (placesV l t wd ht) g ((placesV l t wd ht).map pairP).length x y)) = gridS σ l t wd rows fun x y => colP (g x y) := by
      refine gridS_congr hr fun x y h1 h2 h3 h4 => ?_
      unfold laidTo
      rw [List.length_map, List.take_length, if_pos (places_in.mpr ⟨h1, h2, h3, h4⟩)]
    rw [eg]
    refine Xs.cons (Ex.expr (Ev.fn f_paint_fill (Ds.es (Ds.cons (De.nm rfl) (Ds.cons (De.nm rfl) (Ds.cons De.num (Ds.cons De.num Ds.nil)))) (Ca.mono (d_paint_fill (n := n) hc hz h0 hw h0' hh hl ht' hcol ho hk hr hn hf) fun p σ' hp => ?_))))
    obtain ⟨rfl, rfl⟩ := hp
    generalize hD : (fun x y => dotV (manyV cs e x y) op (letV k x y) col (g x y)) = D
    have hD' : (fun x y => colP (dotV (manyV cs e x y) op (letV k x y) col (g x y))) = fun x y => colP (D x y) := by rw [← hD]
    rw [hD']
    refine Xs.ret (Ev.bt Boot.dict b_dict (Es.cons (Ev.comp [none, none, none, some 3] (It.sq (De.meth0 (De.nm rfl) m_Canvas_places (by decide) (d_places (by (first | lia | omega)) (by (first | lia | omega)) (by (first | lia | omega)) hw (by (first | lia | omega)) hh)) (.inl rfl) fun C cl => ?_))))
    refine CL.mapName (i := 1) (at2 fun x y => .tup [.tup [.int x, .int y], colP (D x y)]) rfl (by rw [List.length_map]; (first | lia | omega)) (fun p hp => ?_) fun ρ => ?_
    · obtain ⟨q, hq, rfl⟩ := List.mem_map.mp hp
      obtain ⟨q1, q2, q3, q4⟩ := places_in.mp hq
      refine De.tp (Ds.cons (De.nm rfl) (Ds.cons (De.bt Boot.tuple b_tuple (Ds.cons (De.meth (De.nm rfl) m_Canvas_get (by decide) (Ds.cons (De.fst (a := q) (De.nm rfl)) (Ds.cons (De.snd (a := q) (De.nm rfl)) Ds.nil)) (d_get (gridS_in hr hn) q1 q2 q3 q4 (by (first | lia | omega)) (by (first | lia | omega)))) Ds.nil) Dc.tupleT) Ds.nil))
    · have ep : (((placesV l t wd ht).map pairP).map (at2 fun x y => PV.tup [.tup [.int x, .int y], colP (D x y)])) = pairsP (keysV l t wd ht) (colsV l t wd ht D) := by
        unfold keysV colsV
        rw [pairsP_map, List.map_map]
        rfl
      rw [ep]
      refine Es.nil (Ca.dictOf (by unfold keysV colsV; rw [List.length_map, List.length_map]) (by unfold keysV; rw [List.length_map]; (first | lia | omega)) keys_nd fun b hb => ?_)
      obtain ⟨hbr, hb'⟩ := rowsAt_none hb
      refine ⟨.at b, _, .sub _ (σ.upd b (.dict (keysV l t wd ht) (colsV l t wd ht D))) fun r bx h => ?_, b, rfl, hb', rfl⟩
      by_cases hrb : r = b
      · subst hrb
        rw [upd_self] at h ⊢
        exact h
      · rw [upd_ne hrb] at h ⊢
        exact gridS_old hf h
  · refine rowsAt_congr fun j _ => gridL_congr fun x _ _ => ?_
    unfold laidTo
    rw [if_neg (by simp)]
end
section
variable {prog : Program} {w : World} {K : Frag} {c : Cx prog w K} {n : Nat} {env : Env} {ρ : List (Option PV)} {σ : Sto} {rest : List Stmt} {Q : FV → List (Option PV) → Sto → Prop}
theorem De.dict1 {kx vx : PySem.Expr} {pos : Pos} {k : List Int} {p : PV} (hk : De c n env ρ σ kx (.tup (intsP k))) (hv : De c n env ρ σ vx p) : De c n env ρ σ (.Dict [some kx] [vx] pos) (.dct [k] [p]) := fun A X s rm S R => by
  refine wpAny_Dict_any rfl rfl (fun e => nomatch e) (show 1 ≤ 15 by decide) ?_
  have hDn : s.heap.get? s.heap.objs.size = none := size_none _
  have hnew : (s.heap.push { cls := .type "dict", data := .dict #[] }).DictOfH (kd prog w) s.heap.objs.size [] := Heap.DictOfH.new s.heap
  have k1 : s.heap.StaysIn (s.heap.push { cls := .type "dict", data := .dict #[] }) := push_stays _ _
  have hσ : σ s.heap.objs.size = none := fresh_sto S hDn
  have nX : ¬ X s.heap.objs.size := fun z => by obtain ⟨o, ho⟩ := (S.gx _ z).2.2; rw [hDn] at ho; cases ho
  have nd : ¬ Own env s.heap.objs.size := fun z => nX (R.ok.own _ z)
  have hsys : (s.heap.objs.size == sysModules) = false := fresh_ne_sys c S.gr
  generalize s.heap.objs.size = D at hDn hnew hσ nX nd hsys ⊢
  generalize s.heap.push { cls := .type "dict", data := .dict #[] } = h₁ at hnew k1 ⊢
  have hYn : ∀ a, Only D a → s.heap.get? a = none := fun a z => by cases z; exact hDn
  have hYl : ∀ a, Only D a → ∃ o, h₁.get? a = some o := fun a z => by cases z; obtain ⟨o, _, _, e, _⟩ := hnew; exact ⟨o, e⟩
  have st : Stay s.heap (Bad X σ) h₁ (Bad (And2 X (Only D)) σ) := stay_more (Y := Only D) k1 hYn
  have S0 : Sat prog w c.G (And2 X (Only D)) h₁ σ := S.more (Y := Only D) k1 hYn hYl
  have R0 : LRep prog w env (And2 X (Only D)) h₁ (Bad (And2 X (Only D)) σ) ρ := by
    obtain ⟨m, hm, hv⟩ := R.ns
    have ok : EnvOk env (And2 X (Only D)) := ⟨R.ok.fn, R.ok.nd, R.ok.gl, R.ok.bi, fun a z => .inl (R.ok.own a z), R.ok.inj, R.ok.nl, fun x a e => .inl (R.ok.cx x a e)⟩
    refine ⟨ok, ⟨m, hm.keeps k1, fun i x k pv hi hp => ?_⟩, fun x hx => let ⟨a, h1, h2, v, o, h3, h4⟩ := R.cl x hx; ⟨a, h1, .inl h2, v, o, k1 _ _ h3, h4⟩⟩
    obtain ⟨v, r, hh⟩ := hv i x k pv hi hp
    refine ⟨v, r.stay st, ?_⟩
    rcases hh with hh | ⟨hk', cc, h1, h2, o, h3, h4⟩
    · exact .inl hh
    · exact .inr ⟨hk', cc, h1, .inl h2, o, k1 _ _ h3, h4⟩
  have x0 : Step (Own env) s σ { s with heap := h₁ } σ := step_ext (tk := s.toks) k1
  refine pairTrees_cons_walk (Ev.then hk rm S0 R0 fun kv s₁ p₁ σ₁ r₁ S₁ R₁ x₁ e₁ => ?_)
  obtain ⟨rfl, rfl⟩ := e₁
  refine Ev.then hv rm S₁ R₁ fun vv s₂ p₂ σ₂ r₂ S₂ R₂ x₂ e₂ => ?_
  obtain ⟨rfl, rfl⟩ := e₂
  refine pairTrees_nil_walk ?_
  have x₁₂ := x₁.trans x₂ S₁ R0.ok.own
  have x₀₂ := x0.trans x₁₂ S0 R0.ok.own
  have hD2 : s₂.heap.DictOfH (kd prog w) D [] := by
    obtain ⟨o, es, ep, ho, q1, q2, q3, q4, q5⟩ := hnew
    exact ⟨o, es, ep, x₁₂.keep D o ho hσ nd, q1, q2, q3, (fun x hx => nomatch hx), q5⟩
  obtain ⟨b, rfl, hb, hkey⟩ := rep_key (r₁.stay (x₂.stay R0.ok.own))
  show wpAny _ A (storeAll D [(.ref b, vv)]) _ _ s₂
  unfold storeAll
  rw [List.forIn_cons]
  refine wpAny_bind (wpAny_bind (wpAny_dictSet_heap (knd := kd prog w) (show A.units < cLine from by have := rm.u64; (first | lia | omega)) hkey hD2 (fun h' hD' hs' => wpAny_pure ?_) (by decide)))
  show wpAny _ A (forIn ([] : List (Value × Value)) _ _) _ _ _
  rw [List.forIn_nil]
  refine wpAny_pure ?_
  rw [storedH_new (atKey_none_of_get fun j q e => by simp at e)] at hD'
  have sl : Stay s₂.heap (Bad (And2 X (Only D)) σ₂) h' (Bad X σ₂) := stay_letgo hs'
  have hbX : ¬ Bad X σ₂ b := by
    obtain ⟨ot, _, _, hot, _⟩ := hkey
    exact sl.good b _ hot hb
  have nbD : ¬ Bad X σ₂ D := fun z => z.elim nX fun z => z hσ
  refine ⟨.dct [k] [p₂], σ₂, ?_, S₂.letgo hs' nX, R₂.letgo hs' nX R.ok, (x₀₂.letgo (h' := h') hs' (fun o ho _ _ => by rw [hDn] at ho; cases ho)).trans step_toks (S₂.letgo hs' nX) R.ok.own, rfl, rfl⟩
  simp only [Rep]
  exact ⟨D, [(k, b, vv)], rfl, nbD, hsys, hD', fun x hx => by rw [List.mem_singleton] at hx; subst hx; exact hbX, rfl, Reps.cons (r₂.stay sl) Reps.nil⟩
end
theorem cols_eq {L : List Pt} {D : Int → Int → Col} : (L.map fun p => colP (D p.1 p.2)) = (L.map fun p => colL (D p.1 p.2)).map fun t => .tup (intsP t) := by rw [List.map_map]; rfl
theorem same_map {L L' : List Pt} {D : Int → Int → Col} (hl : L.length = L'.length) (hs : ∀ p ∈ L, p ∈ L') : SameD (L.map ptKey) (L.map fun p => colL (D p.1 p.2)) (L'.map ptKey) (L'.map fun p => colL (D p.1 p.2)) := by
  refine ⟨by simp [hl], by simp, by simp, fun j k t h1 h2 => ?_⟩
  rw [List.getElem?_map, Option.map_eq_some_iff] at h1 h2
  obtain ⟨p, hp, rfl⟩ := h1
  obtain ⟨p', hp', rfl⟩ := h2
  rw [hp] at hp'; cases hp'
  obtain ⟨i, hi⟩ := List.mem_iff_getElem?.mp (hs p (List.mem_of_getElem? hp))
  exact ⟨i, by rw [List.getElem?_map, hi]; rfl, by rw [List.getElem?_map, hi]; rfl⟩
section
variable {prog : Program} {w : World} {K : Frag} {c : Cx prog w K} {n : Nat} {σ : Sto}
theorem ne_whole {l t wd ht : Int} {D : Int → Int → Col} : CmpTo c n σ .NotEq (.dct (keysV l t wd ht) (colsV l t wd ht D)) (.dct (keysV l t wd ht) (colsV l t wd ht D)) false := by
  have e : colsV l t wd ht D = _ := cols_eq
  exact CmpTo.neDict (.inl (by rw [e]; rfl)) (.inl (by rw [e]; rfl)) (same_map rfl fun p h => h)
theorem parts_len {l t wd ht : Int} (h0 : 0 < wd) : (placesV l t 1 ht ++ placesV (l + 1) t (wd - 1) ht).length = (placesV l t wd ht).length := by
  rw [List.length_append, places_len, places_len, places_len, show wd.toNat = (wd - 1).toNat + 1 by (first | lia | omega), Nat.mul_add]
  rw [show (1 : Int).toNat = 1 from rfl]
  (first | lia | omega)
theorem ne_parts {l t wd ht : Int} {D : Int → Int → Col} (h0 : 0 < wd) : CmpTo c n σ .NotEq (.dct (keysV l t 1 ht ++ keysV (l + 1) t (wd - 1) ht) (colsV l t 1 ht D ++ colsV (l + 1) t (wd - 1) ht D)) (.dct (keysV l t wd ht) (colsV l t wd ht D)) false := by
  have e1 : keysV l t 1 ht ++ keysV (l + 1) t (wd - 1) ht = (placesV l t 1 ht ++ placesV (l + 1) t (wd - 1) ht).map ptKey := by rw [List.map_append]; rfl
  have e2 : colsV l t 1 ht D ++ colsV (l + 1) t (wd - 1) ht D = (placesV l t 1 ht ++ placesV (l + 1) t (wd - 1) ht).map fun p => colP (D p.1 p.2) := by rw [List.map_append]; rfl
  have e : colsV l t wd ht D = _ := cols_eq
  rw [e1, e2]
  refine CmpTo.neDict (.inl (by rw [cols_eq])) (.inl (by rw [e]; rfl)) (same_map (parts_len h0) fun p h => ?_)
  rcases List.mem_append.mp h with h | h
  · have := places_in.mp h; exact places_in.mpr (by omega)
  · have := places_in.mp h; exact places_in.mpr (by omega)
theorem parts_nd {l t wd ht : Int} : (keysV l t 1 ht ++ keysV (l + 1) t (wd - 1) ht).Nodup := by
  rw [List.nodup_append]
  refine ⟨keys_nd, keys_nd, fun a ha b hb e => ?_⟩
  subst e
  obtain ⟨p, hp, rfl⟩ := List.mem_map.mp ha
  obtain ⟨q, hq, e⟩ := List.mem_map.mp hb
  have := places_in.mp hp
  have := places_in.mp hq
  simp only [ptKey, List.cons.injEq, and_true] at e
  omega
end
theorem grounds_of {l t wd ht l' t' wd' ht' : Int} {g : Int → Int → Col} (h1 : l ≤ l') (h2 : l' + wd' ≤ l + wd) (h3 : t ≤ t') (h4 : t' + ht' ≤ t + ht) : GroundsOf (keysV l t wd ht) (colsV l t wd ht g) l' t' wd' ht' g := fun x y a1 a2 a3 a4 => by
  have hm : (x, y) ∈ placesV l t wd ht := places_in.mpr ⟨by dsimp only; (first | lia | omega), by dsimp only; (first | lia | omega), by dsimp only; (first | lia | omega), by dsimp only; (first | lia | omega)⟩
  obtain ⟨j, hj⟩ := List.mem_iff_getElem?.mp hm
  exact ⟨j, by unfold keysV; rw [List.getElem?_map, hj]; rfl, by unfold colsV; rw [List.getElem?_map, hj]; rfl⟩
theorem cols_congr {l t wd ht : Int} {D D' : Int → Int → Col} (h : ∀ x y, l ≤ x → x < l + wd → t ≤ y → y < t + ht → D x y = D' x y) : colsV l t wd ht D = colsV l t wd ht D' := by
  unfold colsV
  refine List.map_congr_left fun p hp => ?_
  obtain ⟨h1, h2, h3, h4⟩ := places_in.mp hp
  rw [h p.1 p.2 h1 h2 h3 h4]
theorem drawn_conts {cs : List (List Pt)} (h0 : cs ≠ []) (h2 : cs.length ≤ 2) (hd : ∀ pts ∈ cs, Drawn pts) : Conts cs ∧ (sidesOf cs).length < 64 := by
  have c : Conts cs := ⟨h0, by (first | lia | omega), fun pts hp => ⟨List.length_pos_iff.mpr (hd pts hp).ne, by have := (hd pts hp).few; (first | lia | omega)⟩, fun pts hp => (hd pts hp).sm⟩
  have := sidesOf_len fun p hp => (c.one p hp).2
  exact ⟨c, by (first | lia | omega)⟩
noncomputable def besideC : List (List Pt) := [[(400, 400), (420, 400), (420, 440)]]
noncomputable def squareC : List (List Pt) := [[(0, 0), (4, 0), (4, 4), (0, 4)]]
theorem beside_conts : Conts besideC ∧ (sidesOf besideC).length < 64 := drawn_conts (by decide) (by decide) fun pts hp => by
  rw [besideC, List.mem_singleton] at hp
  subst hp
  exact ⟨by decide, by decide, by decide⟩
theorem square_conts : Conts squareC ∧ (sidesOf squareC).length < 64 := drawn_conts (by decide) (by decide) fun pts hp => by
  rw [squareC, List.mem_singleton] at hp
  subst hp
  exact ⟨by decide, by decide, by decide⟩
theorem beside_many {e : Bool} {x y : Int} (hx : x < 99) : manyV besideC e x y = 0 := by
  have all : ∀ u v : Int, u < 400 → sampleV besideC e u v = 0 := fun u v hu => sample_out (.inl fun p hp => by
    have : p = (400, 400) ∨ p = (420, 400) ∨ p = (420, 440) := by simpa [besideC] using hp
    rcases this with rfl | rfl | rfl <;> dsimp only <;> omega)
  unfold manyV
  rw [all _ _ (by omega), all _ _ (by omega), all _ _ (by omega), all _ _ (by omega)]; rfl
theorem one_dot : dotV (manyV squareC false 0 0) 255 255 (100, 0, 0, 100) (10, 20, 30, 255) = (106, 12, 18, 255) := by decide +kernel
noncomputable def putG (g : Int → Int → Col) (q : Pt) (a : Col) (x y : Int) : Col := if x = q.1 ∧ y = q.2 then a else g x y
theorem put_take {L : List Pt} (hn : L.Nodup) {k : Nat} {q : Pt} (h : L[k]? = some q) (g : Int → Int → Col) (a : Col) : (L.take (k + 1)).map (fun p => PV.tup [.tup (intsP (ptKey p)), colP (putG g q a p.1 p.2)]) = (L.take k).map (fun p => PV.tup [.tup (intsP (ptKey p)), colP (g p.1 p.2)]) ++ [.tup [pairP q, colP a]] := by
  rw [List.take_add_one, h, List.map_append]
  congr 1
  · refine List.map_congr_left fun p hp => ?_
    have hne : ¬ (p.1 = q.1 ∧ p.2 = q.2) := fun e => by
      have e : p = q := Prod.ext e.1 e.2
      subst e
      obtain ⟨j, hj⟩ := List.mem_iff_getElem?.mp hp
      rw [List.getElem?_take] at hj
      split at hj
      · have := (List.getElem?_inj (List.getElem?_eq_some_iff.mp h).1 hn).mp (h.trans hj.symm)
        (first | lia | omega)
      · cases hj
    unfold putG
    rw [if_neg hne]
  · simp [putG]
    rfl
theorem put_ok {g : Int → Int → Col} {q : Pt} {a : Col} (hg : ∀ x y, ColOk (g x y)) (ha : ColOk a) : ∀ x y, ColOk (putG g q a x y) := fun x y => by
  unfold putG
  split
  · exact ha
  · exact hg x y
theorem key_new {L : List Pt} (hn : L.Nodup) {k : Nat} {q : Pt} (h : L[k]? = some q) : ptKey q ∉ (L.take k).map ptKey := fun hm => by
  obtain ⟨p, hp, e⟩ := List.mem_map.mp hm
  simp only [ptKey, List.cons.injEq, and_true] at e
  have e : p = q := Prod.ext e.1 e.2
  subst e
  obtain ⟨j, hj⟩ := List.mem_iff_getElem?.mp hp
  rw [List.getElem?_take] at hj
  split at hj
  · have := (List.getElem?_inj (List.getElem?_eq_some_iff.mp h).1 hn).mp (h.trans hj.symm)
    (first | lia | omega)
  · cases hj
theorem rule_pick {r : Nat} {p : PV} (h : ([.str (Str.ofString "nonzero"), .str (Str.ofString "evenodd")] : List PV)[r]? = some p) : ∃ e, p = .str (ruleS e) := by
  match r, h with
  | 0, h => cases h; exact ⟨false, rfl⟩
  | 1, h => cases h; exact ⟨true, rfl⟩
  | r + 2, h => simp at h
section
variable {prog : Program} {w : World} {K : Frag} {c : Cx prog w K} {n : Nat} {env : Env} {ρ : List (Option PV)} {σ : Sto} {rest : List Stmt} {Q : FV → List (Option PV) → Sto → Prop}
theorem star_tup {es r : List PySem.Expr} {k : Nat} {p : Pos} : starEach (.Tuple es k p :: r) env = (false, eval (.Tuple es k p) env) :: starEach r env := by rfl
theorem star_const {x : Const} {r : List PySem.Expr} {k : Nat} {p : Pos} : starEach (.Constant x k p :: r) env = (false, eval (.Constant x k p) env) :: starEach r env := by rfl
theorem star_name {x : Str} {r : List PySem.Expr} {p : Pos} : starEach (.Name x p :: r) env = (false, eval (.Name x p) env) :: starEach r env := by rfl
theorem star_list {es r : List PySem.Expr} {p : Pos} : starEach (.List es p :: r) env = (false, eval (.List es p) env) :: starEach r env := by rfl
theorem star_call {f : PySem.Expr} {es r : List PySem.Expr} {kw : List Keyword} {p : Pos} : starEach (.Call f es kw p :: r) env = (false, eval (.Call f es kw p) env) :: starEach r env := by rfl
theorem star_dict {ks : List (Option PySem.Expr)} {vs r : List PySem.Expr} {p : Pos} : starEach (.Dict ks vs p :: r) env = (false, eval (.Dict ks vs p) env) :: starEach r env := by rfl
theorem star_bin {a b : PySem.Expr} {o : Operator} {r : List PySem.Expr} {p : Pos} : starEach (.BinOp a o b p :: r) env = (false, eval (.BinOp a o b p) env) :: starEach r env := by rfl
theorem len1 {a : PV} : [a].length ≤ 1000 := by simp
theorem len2 {a b : PV} : [a, b].length ≤ 1000 := by simp
theorem len3 {a b d : PV} : [a, b, d].length ≤ 1000 := by simp
theorem len4 {a b d e : PV} : [a, b, d, e].length ≤ 1000 := by simp
theorem len6 {a b d e f g : PV} : [a, b, d, e, f, g].length ≤ 1000 := by simp
theorem De.pt {a b : Int} {k1 k2 k3 : Nat} {p1 p2 p3 : Pos} : De c n env ρ σ (.Tuple [.Constant (.int a) k1 p1, .Constant (.int b) k2 p2] k3 p3) (pairP (a, b)) := De.tuple (l := [.int a, .int b]) (Ds.cons De.num (Ds.cons De.num Ds.nil star_const) star_const) (show 2 ≤ 1000 by decide)
theorem De.four {a0 a1 a2 a3 : Int} {k0 k1 k2 k3 k : Nat} {p0 p1 p2 p3 p : Pos} : De c n env ρ σ (.Tuple [.Constant (.int a0) k0 p0, .Constant (.int a1) k1 p1, .Constant (.int a2) k2 p2, .Constant (.int a3) k3 p3] k p) (colP (a0, a1, a2, a3)) := De.tuple (l := [.int a0, .int a1, .int a2, .int a3]) (Ds.cons De.num (Ds.cons De.num (Ds.cons De.num (Ds.cons De.num Ds.nil star_const) star_const) star_const) star_const) (show 4 ≤ 1000 by decide)
theorem De.tri {a0 b0 a1 b1 a2 b2 : Int} {ka ka1 ka2 kb kb1 kb2 kc kc1 kc2 kx ky kz : Nat} {pa pa1 pa2 pb pb1 pb2 pc pc1 pc2 px py pz : Pos} : De c n env ρ σ (.Tuple [.Tuple [(.Tuple [.Constant (.int a0) ka pa, .Constant (.int b0) ka1 pa1] ka2 pa2), (.Tuple [.Constant (.int a1) kb pb, .Constant (.int b1) kb1 pb1] kb2 pb2), (.Tuple [.Constant (.int a2) kc pc, .Constant (.int b2) kc1 pc1] kc2 pc2)] kx px, .Constant (.bool true) ky py] kz pz) (contP [(a0, b0), (a1, b1), (a2, b2)]) := by
  show De c n env ρ σ _ (.tup [.tup [pairP (a0, b0), pairP (a1, b1), pairP (a2, b2)], .bool true])
  with_reducible exact De.tuple (Ds.cons (De.tuple (Ds.cons De.pt (Ds.cons De.pt (Ds.cons De.pt Ds.nil star_tup) star_tup) star_tup) len3) (Ds.cons De.truth Ds.nil star_const) star_tup) len2
theorem De.quad {a0 b0 a1 b1 a2 b2 a3 b3 : Int} {ka ka1 ka2 kb kb1 kb2 kc kc1 kc2 kd kd1 kd2 kx ky kz : Nat} {pa pa1 pa2 pb pb1 pb2 pc pc1 pc2 pd pd1 pd2 px py pz : Pos} : De c n env ρ σ (.Tuple [.Tuple [(.Tuple [.Constant (.int a0) ka pa, .Constant (.int b0) ka1 pa1] ka2 pa2), (.Tuple [.Constant (.int a1) kb pb, .Constant (.int b1) kb1 pb1] kb2 pb2), (.Tuple [.Constant (.int a2) kc pc, .Constant (.int b2) kc1 pc1] kc2 pc2), (.Tuple [.Constant (.int a3) kd pd, .Constant (.int b3) kd1 pd1] kd2 pd2)] kx px, .Constant (.bool true) ky py] kz pz) (contP [(a0, b0), (a1, b1), (a2, b2), (a3, b3)]) := by
  show De c n env ρ σ _ (.tup [.tup [pairP (a0, b0), pairP (a1, b1), pairP (a2, b2), pairP (a3, b3)], .bool true])
  with_reducible exact De.tuple (Ds.cons (De.tuple (Ds.cons De.pt (Ds.cons De.pt (Ds.cons De.pt (Ds.cons De.pt Ds.nil star_tup) star_tup) star_tup) star_tup) len4) (Ds.cons De.truth Ds.nil star_const) star_tup) len2
theorem De.triL {a0 b0 a1 b1 a2 b2 : Int} {ka ka1 ka2 kb kb1 kb2 kc kc1 kc2 kx ky kz : Nat} {pa pa1 pa2 pb pb1 pb2 pc pc1 pc2 px py pz : Pos} {pw : Pos} : De c n env ρ σ (.List [.Tuple [.Tuple [(.Tuple [.Constant (.int a0) ka pa, .Constant (.int b0) ka1 pa1] ka2 pa2), (.Tuple [.Constant (.int a1) kb pb, .Constant (.int b1) kb1 pb1] kb2 pb2), (.Tuple [.Constant (.int a2) kc pc, .Constant (.int b2) kc1 pc1] kc2 pc2)] kx px, .Constant (.bool true) ky py] kz pz] pw) (contsP [[(a0, b0), (a1, b1), (a2, b2)]]) := by
  show De c n env ρ σ _ (.lst [contP [(a0, b0), (a1, b1), (a2, b2)]])
  with_reducible exact De.list (Ds.cons De.tri Ds.nil star_tup) len1
theorem Xs.triL {a0 b0 a1 b1 a2 b2 : Int} {ka ka1 ka2 kb kb1 kb2 kc kc1 kc2 kx ky kz : Nat} {pa pa1 pa2 pb pb1 pb2 pc pc1 pc2 px py pz : Pos} {pw p0 pos : Pos} {x : Str} (i : Nat) (hi : env.scope.names[i]? = some (x, .local)) (r : Xs c n env rest (ρ.set i (some (contsP [[(a0, b0), (a1, b1), (a2, b2)]]))) σ Q) :
    Xs c n env (.Assign [.Name x p0] (.List [.Tuple [.Tuple [(.Tuple [.Constant (.int a0) ka pa, .Constant (.int b0) ka1 pa1] ka2 pa2), (.Tuple [.Constant (.int a1) kb pb, .Constant (.int b1) kb1 pb1] kb2 pb2), (.Tuple [.Constant (.int a2) kc pc, .Constant (.int b2) kc1 pc1] kc2 pc2)] kx px, .Constant (.bool true) ky py] kz pz] pw) pos :: rest) ρ σ Q := by
  with_reducible refine Xs.cons (Ex.assign hi (De.ev De.triL ?_) ?_ ?_)
  · exact r
  · exact .inl rfl
  · rfl
theorem Xs.quad {a0 b0 a1 b1 a2 b2 a3 b3 : Int} {ka ka1 ka2 kb kb1 kb2 kc kc1 kc2 kd kd1 kd2 kx ky kz : Nat} {pa pa1 pa2 pb pb1 pb2 pc pc1 pc2 pd pd1 pd2 px py pz : Pos} {p0 pos : Pos} {x : Str} (i : Nat) (hi : env.scope.names[i]? = some (x, .local)) (r : Xs c n env rest (ρ.set i (some (contP [(a0, b0), (a1, b1), (a2, b2), (a3, b3)]))) σ Q) :
    Xs c n env (.Assign [.Name x p0] (.Tuple [.Tuple [(.Tuple [.Constant (.int a0) ka pa, .Constant (.int b0) ka1 pa1] ka2 pa2), (.Tuple [.Constant (.int a1) kb pb, .Constant (.int b1) kb1 pb1] kb2 pb2), (.Tuple [.Constant (.int a2) kc pc, .Constant (.int b2) kc1 pc1] kc2 pc2), (.Tuple [.Constant (.int a3) kd pd, .Constant (.int b3) kd1 pd1] kd2 pd2)] kx px, .Constant (.bool true) ky py] kz pz) pos :: rest) ρ σ Q := by
  with_reducible refine Xs.cons (Ex.assign hi (De.ev De.quad ?_) ?_ ?_)
  · exact r
  · exact .inl rfl
  · rfl
theorem De.changed {x y : Str} {q1 q2 : Pos} {wo : Str} {cs : List (List Pt)} {e : Bool} {col : Col} {op : Int} {k : Option ClipV} {k1 k2 k3 : Nat} {p1 p2 p3 p4 p5 p6 : Pos} (ho : De c n env ρ σ (.Name x q1) (opP wo cs e col op k)) (hc : De c n env ρ σ (.Name y q2) (clipP k)) :
    De c n env ρ σ (.BinOp (.Subscript (.Name x q1) (.Slice none (some (.Constant (.int 4) k1 p1)) none p2) p3) .Add (.Tuple [.Constant (.int 0) k2 p4, .Name y q2] k3 p5) p6) (opP wo cs e col 0 k) :=
  De.addT (p := [.str wo, contsP cs, .str (ruleS e), flatP col]) (q := [.int 0, clipP k]) (De.sliceTo (b := 4) (l := [.str wo, contsP cs, .str (ruleS e), flatP col, .int op, clipP k]) ho (show 4 < 6 by decide) (show 6 ≤ 1000000 by decide)) (De.tuple (Ds.cons De.num (Ds.cons hc Ds.nil star_name) star_const) (show 2 ≤ 1000 by decide)) (fun h => nomatch h) (fun h => nomatch h) (show 4 + 2 ≤ 1000000 by decide)
theorem De.moved {x y : Str} {q1 q2 : Pos} {wo wo' : Str} {cs bs : List (List Pt)} {e : Bool} {col : Col} {op : Int} {k : Option ClipV} {k1 k2 k3 : Nat} {p1 p2 p3 p4 p5 p6 : Pos} (ho : De c n env ρ σ (.Name x q1) (opP wo cs e col op k)) (hc : De c n env ρ σ (.Name y q2) (contsP bs)) :
    De c n env ρ σ (.BinOp (.Tuple [.Constant (.str wo') k2 p4, .Name y q2] k3 p5) .Add (.Subscript (.Name x q1) (.Slice (some (.Constant (.int 2) k1 p1)) none none p2) p3) p6) (opP wo' bs e col op k) :=
  De.addT (p := [.str wo', contsP bs]) (q := [.str (ruleS e), flatP col, .int op, clipP k]) (De.tuple (Ds.cons De.text (Ds.cons hc Ds.nil star_name) star_const) (show 2 ≤ 1000 by decide)) (De.sliceFrom (a := 2) (l := [.str wo, contsP cs, .str (ruleS e), flatP col, .int op, clipP k]) ho (by decide) (show 2 ≤ 6 by decide) (show 6 ≤ 1000000 by decide)) (fun h => nomatch h) (fun h => nomatch h) (show 2 + 4 ≤ 1000000 by decide)
theorem De.bothB {a1 a2 b1 b2 : PySem.Expr} {o1 o2 : Operator} {a b : PV} {p1 p2 p : Pos} (h0 : De c n env ρ σ (.BinOp a1 o1 a2 p1) a) (h1 : De c n env ρ σ (.BinOp b1 o2 b2 p2) b) : De c n env ρ σ (.List [.BinOp a1 o1 a2 p1, .BinOp b1 o2 b2 p2] p) (.lst [a, b]) := De.list (Ds.cons h0 (Ds.cons h1 Ds.nil star_bin) star_bin) (show 2 ≤ 1000 by decide)
theorem De.oneOp {x y : Str} {q1 q2 q3 : Pos} {fa : List PySem.Expr} {wo : Str} {pts : List Pt} {col : Col} {k1 k2 k3 k4 k5 : Nat} {p1 p2 p3 p4 p5 p6 : Pos} (hs : De c n env ρ σ (.Name x q1) (contP pts)) (hf : De c n env ρ σ (.Call (.Name y q2) fa [] q3) (flatP col)) :
    De c n env ρ σ (.Tuple [.Constant (.str wo) k1 p1, .List [.Name x q1] p2, .Constant (.str (Str.ofString "nonzero")) k2 p3, .Call (.Name y q2) fa [] q3, .Constant (.int 255) k3 p4, .Constant .none k4 p5] k5 p6) (opP wo [pts] false col 255 none) := by
  show De c n env ρ σ _ (.tup [.str wo, contsP [pts], .str (Str.ofString "nonzero"), flatP col, .int 255, .none])
  have h1 : De c n env ρ σ (.List [.Name x q1] p2) (contsP [pts]) := by
    show De c n env ρ σ _ (.lst [contP pts])
    with_reducible exact De.list (Ds.cons hs Ds.nil star_name) len1
  with_reducible exact De.tuple (Ds.cons De.text (Ds.cons h1 (Ds.cons De.text (Ds.cons hf (Ds.cons De.num (Ds.cons De.nothing Ds.nil star_const) star_const) star_call) star_const) star_list) star_const) len6
theorem De.dot {x y a0 a1 a2 a3 : Int} {k0 k1 k2 k3 k4 k5 k6 k7 : Nat} {p0 p1 p2 p3 p4 p5 p6 p7 p8 : Pos} :
    De c n env ρ σ (.Dict [some (.Tuple [.Constant (.int x) k0 p0, .Constant (.int y) k1 p1] k2 p2)] [.Tuple [.Constant (.int a0) k3 p3, .Constant (.int a1) k4 p4, .Constant (.int a2) k5 p5, .Constant (.int a3) k6 p6] k7 p7] p8) (.dct [[x, y]] [colP (a0, a1, a2, a3)]) := by
  have h1 : De c n env ρ σ (.Tuple [.Constant (.int x) k0 p0, .Constant (.int y) k1 p1] k2 p2) (.tup (intsP [x, y])) := De.pt
  have h2 : De c n env ρ σ (.Tuple [.Constant (.int a0) k3 p3, .Constant (.int a1) k4 p4, .Constant (.int a2) k5 p5, .Constant (.int a3) k6 p6] k7 p7) (colP (a0, a1, a2, a3)) := De.four
  with_reducible exact De.dict1 h1 h2
theorem De.oneEq {z : Str} {q1 : Pos} {x y a0 a1 a2 a3 : Int} {k0 k1 k2 k3 k4 k5 k6 k7 : Nat} {p0 p1 p2 p3 p4 p5 p6 p7 p8 p9 : Pos} (h : De c n env ρ σ (.Name z q1) (.dct [[x, y]] [colP (a0, a1, a2, a3)])) :
    De c n env ρ σ (.Compare (.Name z q1) [.Eq] [.Dict [some (.Tuple [.Constant (.int x) k0 p0, .Constant (.int y) k1 p1] k2 p2)] [.Tuple [.Constant (.int a0) k3 p3, .Constant (.int a1) k4 p4, .Constant (.int a2) k5 p5, .Constant (.int a3) k6 p6] k7 p7] p8] p9) (.bool true) := by
  have h2 : De c n env ρ σ (.Dict [some (.Tuple [.Constant (.int x) k0 p0, .Constant (.int y) k1 p1] k2 p2)] [.Tuple [.Constant (.int a0) k3 p3, .Constant (.int a1) k4 p4, .Constant (.int a2) k5 p5, .Constant (.int a3) k6 p6] k7 p7] p8) (.dct [[x, y]] [colP (a0, a1, a2, a3)]) := by with_reducible exact De.dot
  have h3 : CmpTo c n σ .Eq (.dct [[x, y]] [colP (a0, a1, a2, a3)]) (.dct [[x, y]] [colP (a0, a1, a2, a3)]) true := CmpTo.eqDict (ks := [[x, y]]) (l := [[a0, a1, a2, a3]]) (ks' := [[x, y]]) (l' := [[a0, a1, a2, a3]]) (.inl rfl) (.inl rfl) ⟨rfl, rfl, rfl, fun j k t h1 h2 => ⟨j, h1, h2⟩⟩
  with_reducible refine De.cmpBy h h2 h3 ?_
  rfl
end
theorem col0_ok : ColOk (0, 0, 0, 0) := ⟨by decide, by decide, by decide, by decide⟩
noncomputable def lawR (sl : List Int) (s : Addr) (l t wd ht : Int) (rows : List Addr) (g : Int → Int → Col) (cs : List (List Pt)) (col : Col) (k : Option ClipV) (e : Bool) (opc : Int) (place due let_ whole parted beside other square one : Option PV) : List (Option PV) :=
  [some (.lst (intsP sl)), some (.at s), some (canvP l t wd ht rows), place, some (.dct (keysV l t wd ht) (colsV l t wd ht g)), some (contsP cs), some (colP col), some (clipP k), some (.str (ruleS e)), some (opP (Str.ofString "fill") cs e col opc k), due, let_, whole, parted, beside, other, square, one, none, none, none, none, none, none, none, none, none, none, none]
theorem near_abs {l : Int} (h : -2 ≤ l ∧ l ≤ 2) : l.natAbs < 100 := by omega
theorem near_abs1 {l : Int} (h : -2 ≤ l ∧ l ≤ 2) : (l + 1).natAbs < 100 := by omega
theorem keys_ne {l t ht : Int} (h : 0 < ht) : keysV l t 1 ht ≠ [] := fun e => by
  have hm : (l, t) ∈ placesV l t 1 ht := places_in.mpr ⟨by dsimp only; (first | lia | omega), by dsimp only; (first | lia | omega), by dsimp only; (first | lia | omega), by dsimp only; (first | lia | omega)⟩
  rw [List.map_eq_nil_iff.mp e] at hm
  cases hm
noncomputable def oneD (x y : Int) : Col := dotV (manyV squareC false x y) 255 255 (100, 0, 0, 100) (10, 20, 30, 255)
theorem one_cols : colsV 0 0 1 1 oneD = [colP (106, 12, 18, 255)] := by
  show [colP (oneD 0 0)] = _
  unfold oneD
  rw [one_dot]
section
variable {prog : Program} {w : World} {K : Frag} {c : Cx prog w K} {n : Nat} {env : Env} {ρ : List (Option PV)} {σ : Sto} {rest : List Stmt} {Q : FV → List (Option PV) → Sto → Prop}
theorem Xs.step {st : Stmt} (I : List (Option PV) → Sto → Prop) (h : Ex c n env st ρ σ (Join I Q)) (k : ∀ ρ' σ', I ρ' σ' → Xs c n env rest ρ' σ' Q) : Xs c n env (st :: rest) ρ σ Q :=
  Xs.cons (Ex.mono h fun f ρ' σ' q => by
    cases f with
    | next => exact k _ _ q
    | brk => exact q
    | cont => exact q
    | ret p => exact q)
end
section
variable {prog : Program} {w : World} {c : Cx prog w (heapK w.params)} {n : Nat} {σ : Sto} {P : Params}
theorem d_law {sl : List Int} (hsl : sl.length ≤ 1000) : Ca c (n + 10) (.ref 542) [.lst (intsP sl)] σ fun p _ => p = .bool true :=
  Cc.ca <| Cc.fn ["script"] rfl (argn1 fun _ => rfl) fun L cells => by
    refine Xs.cons (Ex.assign (i := 1) rfl (Ev.fn f_law_pool (Ds.es (Ds.cons (De.nm rfl) Ds.nil) (Ca.mono (d_law_pool hsl) fun p σ' hp => ?_))))
    obtain ⟨s, a0, b0, rfl, hs0, rfl⟩ := hp
    refine Xs.cons (Ex.assign (i := 2) rfl (Ev.frz (Ev.fn f_Canvas (Es.cons (Ev.add (De.ev De.num (Ev.fn f_law_take (Ds.es (Ds.cons (De.nm rfl) (Ds.cons De.num Ds.nil)) (Ca.mono (d_take upd_self (by decide) (by decide)) fun p σ' hp => ?_)))))))))
    obtain ⟨r1, a1, b1, r1l, r1u, rfl, rfl⟩ := hp
    rw [upd_upd]
    refine ⟨_, _, rfl, rfl, Es.cons (Ev.add (De.ev De.num (Ev.fn f_law_take (Ds.es (Ds.cons (De.nm rfl) (Ds.cons De.num Ds.nil)) (Ca.mono (d_take upd_self (by decide) (by decide)) fun p σ' hp => ?_)))))⟩
    obtain ⟨r2, a2, b2, r2l, r2u, rfl, rfl⟩ := hp
    rw [upd_upd]
    refine ⟨_, _, rfl, rfl, Es.cons (Ev.sub (Ev.fn f_law_take (Ds.es (Ds.cons (De.nm rfl) (Ds.cons De.num Ds.nil)) (Ca.mono (d_take upd_self (by decide) (by decide)) fun p σ' hp => ?_))))⟩
    obtain ⟨r3, a3, b3, r3l, r3u, rfl, rfl⟩ := hp
    rw [upd_upd]
    refine De.ev De.num ⟨_, _, rfl, rfl, Es.cons (Ev.sub (Ev.fn f_law_take (Ds.es (Ds.cons (De.nm rfl) (Ds.cons De.num Ds.nil)) (Ca.mono (d_take upd_self (by decide) (by decide)) fun p σ' hp => ?_))))⟩
    obtain ⟨r4, a4, b4, r4l, r4u, rfl, rfl⟩ := hp
    rw [upd_upd]
    refine De.ev De.num ⟨_, _, rfl, rfl, Es.nil ?_⟩
    obtain ⟨wd, hwd⟩ : ∃ x, x = 2 + r1 := ⟨_, rfl⟩
    obtain ⟨ht, hht⟩ : ∃ x, x = 2 + r2 := ⟨_, rfl⟩
    obtain ⟨l, hl⟩ : ∃ x, x = r3 - 2 := ⟨_, rfl⟩
    obtain ⟨t, htt⟩ : ∃ x, x = r4 - 2 := ⟨_, rfl⟩
    rw [← hwd, ← hht, ← hl, ← htt]
    have bw : 2 ≤ wd ∧ wd ≤ 3 := by (first | lia | omega)
    have bh : 2 ≤ ht ∧ ht ≤ 3 := by (first | lia | omega)
    have bl : -2 ≤ l ∧ l ≤ 2 := by (first | lia | omega)
    have bt : -2 ≤ t ∧ t ≤ 2 := by (first | lia | omega)
    clear hwd hht hl htt r1l r1u r2l r2u r3l r3u r4l r4u
    have w2 : 1 < wd := bw.1
    have w0 : 0 < wd := Int.lt_trans (by decide) w2
    have w1 : wd ≤ 100 := Int.le_trans bw.2 (by decide)
    have g0 : 0 < ht := Int.lt_of_lt_of_le (by decide) bh.1
    have g1 : ht ≤ 100 := Int.le_trans bh.2 (by decide)
    have lb : l.natAbs < 100 := near_abs bl
    have tb : t.natAbs < 100 := near_abs bt
    have p0 : 0 < wd - 1 := Int.sub_pos_of_lt w2
    have p1 : wd - 1 ≤ 100 := Int.le_trans (Int.sub_le_self _ (by decide)) w1
    have pl : (l + 1).natAbs < 100 := near_abs1 bl
    refine Ca.mono (d_Canvas w0 (Int.le_trans w1 (by decide)) g0 (Int.le_trans g1 (by decide))) fun p σ' hp => ?_
    obtain ⟨rows, rfl, _, _, hf, rfl⟩ := hp
    refine ⟨_, σ.upd s (srcL a4 b4), .sub _ _ fun r b h => gridS_old hf h, ?_⟩
    clear hf
    have hpl : (placesV l t wd ht).length ≤ 100 := by
      rw [places_len]
      exact Nat.le_trans (Nat.mul_le_mul (show ht.toNat ≤ 3 by (first | lia | omega)) (show wd.toNat ≤ 3 by (first | lia | omega))) (by decide)
    refine Xs.cons (Ex.assign (i := 4) rfl (Ev.frz (Ev.bt Boot.dict b_dict (Es.cons (Ev.comp [none, none, none, some 1] (It.sq (De.meth0 (De.nm rfl) m_Canvas_places (by decide) (d_places (abs_lt lb) (abs_lt tb) (Int.le_of_lt w0) w1 (Int.le_of_lt g0) g1)) (.inl rfl) fun C cl => ?_))))))
    refine CL.inv (tgt := fun p ρ => ρ.set 1 (some p)) (I := fun k acc σ' => E33 (fun (g : Int → Int → Col) (a b : Int) => (∀ x y, ColOk (g x y))) (fun (g : Int → Int → Col) (a b : Int) => acc = (((placesV l t wd ht).take k).map fun p => PV.tup [.tup (intsP (ptKey p)), colP (g p.1 p.2)])) (fun (g : Int → Int → Col) (a b : Int) => σ' = σ.upd s (srcL a b))) _ (fun p ρ _ => As.name rfl (.inl rfl)) (fun p q ρ _ _ => List.set_set ..) (fun k p acc σ1 hk hI => ?_) (fun acc ρ σ1 hI => ?_) _ _ ⟨fun _ _ => (0, 0, 0, 0), a4, b4, fun _ _ => col0_ok, rfl, rfl⟩
    · obtain ⟨g, a, b, hg, rfl, rfl⟩ := hI
      rw [List.getElem?_map, Option.map_eq_some_iff] at hk
      obtain ⟨q, hq, rfl⟩ := hk
      refine ⟨true, rfl, fun _ => ⟨by rw [List.length_map, List.length_take]; (first | lia | omega), ?_⟩, fun h => nomatch h⟩
      refine Ev.tuple (Es.cons (De.ev (De.nm rfl) (Es.cons (Ev.fn f_law_colour (Ds.es (Ds.cons (De.nm rfl) Ds.nil) (Ca.mono (d_law_colour upd_self) fun p σ' hp => ?_))))))
      obtain ⟨col, a', b', hcol, rfl, rfl⟩ := hp
      rw [upd_upd]
      exact Es.nil ⟨show 2 ≤ 1000 by decide, putG g q col, a', b', put_ok hg hcol, (put_take places_nd hq g col).symm, rfl⟩
    obtain ⟨g, a, b, hg, rfl, rfl⟩ := hI
    have ep : (((placesV l t wd ht).take ((placesV l t wd ht).map pairP).length).map fun p => PV.tup [.tup (intsP (ptKey p)), colP (g p.1 p.2)]) = pairsP (keysV l t wd ht) (colsV l t wd ht g) := by
      unfold keysV colsV
      rw [pairsP_map, List.length_map, List.take_length]
    rw [ep]
    refine Es.nil (Ca.dictOf (by unfold keysV colsV; rw [List.length_map, List.length_map]) (by unfold keysV; rw [List.length_map]; (first | lia | omega)) keys_nd fun d hd => ⟨_, _, .dict d _ _ upd_self, ?_⟩)
    rw [drop_upd hd]
    clear hd ep
    refine Xs.cons (Ex.assignComp (i := 5) [none, none, none, some 2, some 1] rfl (It.rg1E b_range (Es.cons (Ev.add (De.ev De.num (Ev.fn f_law_take (Ds.es (Ds.cons (De.nm rfl) (Ds.cons De.num Ds.nil)) (Ca.mono (d_take upd_self (by decide) (by decide)) fun p σ' hp => ?_))))))))
    obtain ⟨r, a', b', r0, r1, rfl, rfl⟩ := hp
    rw [upd_upd]
    refine ⟨_, _, rfl, rfl, Es.nil ⟨_, rfl, by (first | lia | omega), fun C cl => ?_⟩⟩
    refine CL.inv (tgt := fun p ρ => ρ.set 1 (some p)) (I := fun k acc σ' => E34 (fun (cs : List (List Pt)) (a b : Int) => cs.length = k) (fun (cs : List (List Pt)) (a b : Int) => (∀ pts ∈ cs, Drawn pts)) (fun (cs : List (List Pt)) (a b : Int) => acc = cs.map contP) (fun (cs : List (List Pt)) (a b : Int) => σ' = σ.upd s (srcL a b))) _ (fun p ρ _ => As.name rfl (.inl rfl)) (fun p q ρ _ _ => List.set_set ..) (fun k p acc σ1 hk hI => ?_) (fun acc ρ σ1 hI => ?_) _ _ ⟨[], a', b', rfl, by simp, rfl, rfl⟩
    · obtain ⟨cs, a5, b5, hl, hd, rfl, rfl⟩ := hI
      obtain ⟨hk', rfl⟩ := nums_get hk
      refine ⟨true, rfl, fun _ => ⟨by rw [List.length_map]; (first | lia | omega), ?_⟩, fun h => nomatch h⟩
      refine Ev.fn f_law_contour (Ds.es (Ds.cons (De.nm rfl) (Ds.cons (De.nm rfl) Ds.nil)) (Ca.mono (d_law_contour upd_self w0 w1 g0 g1 lb tb) fun p σ' hp => ?_))
      obtain ⟨pts, a6, b6, rfl, hpt, rfl⟩ := hp
      refine ⟨cs ++ [pts], a6, b6, by rw [List.length_append, hl]; rfl, fun p hp => ?_, by rw [List.map_append]; rfl, by rw [upd_upd]⟩
      rcases List.mem_append.mp hp with hp | hp
      · exact hd p hp
      · rw [List.mem_singleton] at hp; subst hp; exact hpt
    obtain ⟨cs, a5, b5, hl, hd, rfl, rfl⟩ := hI
    rw [nums_length] at hl
    obtain ⟨hc, hz⟩ := drawn_conts (fun e => by subst e; simp at hl; (first | lia | omega)) (by (first | lia | omega)) hd
    show Xs c _ _ _ _ (σ.upd s (srcL a5 b5)) _
    refine Xs.swap (xs := [Str.ofString "colour", Str.ofString "clip", Str.ofString "rule"]) (Ev.tuple (Es.cons (Ev.fn f_law_colour (Ds.es (Ds.cons (De.nm rfl) Ds.nil) (Ca.mono (d_law_colour upd_self) fun p σ' hp => ?_)))))
    obtain ⟨col, a6, b6, hcol, rfl, rfl⟩ := hp
    rw [upd_upd]
    refine Es.cons (Ev.fn f_law_clip (Ds.es (Ds.cons (De.nm rfl) (Ds.cons (De.nm rfl) Ds.nil)) (Ca.mono (d_law_clip upd_self w2 w1 g0 g1 lb tb) fun p σ' hp => ?_)))
    obtain ⟨k, F, hF, rfl, a7, b7, rfl⟩ := hp
    refine Es.cons (Ev.fn f_law_one (Ds.es (Ds.cons (De.nm rfl) (Ds.cons (De.ls (l := [.str (Str.ofString "nonzero"), .str (Str.ofString "evenodd")]) (Ds.cons De.text (Ds.cons De.text Ds.nil))) Ds.nil)) (Ca.mono (d_one (hF.src _ _) (fun h => nomatch h) (show 2 ≤ 1000 by decide)) fun p σ' hp => ?_)))
    obtain ⟨r', a8, b8, hr, rfl⟩ := hp
    obtain ⟨e, rfl⟩ := rule_pick hr
    rw [hF.upd]
    refine Es.nil ⟨show 3 ≤ 1000 by decide, _, _, rfl, rfl, .cons (i := 8) rfl (.inl rfl) (.cons (i := 7) rfl (.inl rfl) (.cons (i := 6) rfl (.inl rfl) (.nil _))), ?_⟩
    refine Xs.cons (Ex.assign (i := 9) rfl (Ev.tuple (Es.cons (De.ev De.text (Es.cons (De.ev (De.nm rfl) (Es.cons (De.ev (De.nm rfl) (Es.cons (De.ev (De.fn f_Flat (Ds.cons (De.nm rfl) Ds.nil) d_Flat) (Es.cons (Ev.fn f_law_one (Ds.es (Ds.cons (De.nm rfl) (Ds.cons (De.ls (l := intsP [255, 255, 100, 1]) (Ds.cons De.num (Ds.cons De.num (Ds.cons De.num (Ds.cons De.num Ds.nil))))) Ds.nil)) (Ca.mono (d_one (hF.src _ _) (fun h => nomatch h) (show 4 ≤ 1000 by decide)) fun p σ' hp => ?_))))))))))))))
    obtain ⟨r'', a9, b9, hr', rfl⟩ := hp
    obtain ⟨opc, rfl, o0, o1⟩ := byte_pick (by decide) hr'
    rw [hF.upd]
    refine Es.cons (De.ev (De.nm rfl) (Es.nil ⟨show 6 ≤ 1000 by decide, ?_⟩))
    have hk := hF.clip a9 b9
    generalize F a9 b9 = σ1 at hk ⊢
    refine Xs.cons (Ex.assign (i := 10) rfl (Ev.dict0 fun d hd0 => ?_))
    refine Xs.for (It.sq (De.meth0 (De.nm rfl) m_Canvas_places (by decide) (d_places (abs_lt lb) (abs_lt tb) (Int.le_of_lt w0) w1 (Int.le_of_lt g0) g1)) (.inl rfl) (Loop.inv (I := fun j ρ σ' => (Some2 (fun u v => lawR sl s l t wd ht rows g cs col k e opc u (some (.at d)) v none none none none none none) ρ) ∧ σ' = σ1.upd d (.dict (((placesV l t wd ht).take j).map ptKey) (((placesV l t wd ht).take j).map fun p => colP (dotV (manyV cs e p.1 p.2) opc (letV k p.1 p.2) col (g p.1 p.2))))) (fun j p ρ σ2 hj hI => ?_) (fun ρ σ2 hI => ?_) _ _ ⟨⟨none, none, rfl⟩, rfl⟩))
    · obtain ⟨⟨u, v, rfl⟩, rfl⟩ := hI
      rw [List.getElem?_map, Option.map_eq_some_iff] at hj
      obtain ⟨q, hq, rfl⟩ := hj
      obtain ⟨q1, q2, q3, q4⟩ := places_in.mp (List.mem_of_getElem? hq)
      obtain ⟨i, hi1, hi2⟩ := grounds_of (l := l) (t := t) (wd := wd) (ht := ht) (g := g) (Int.le_refl _) (Int.le_refl _) (Int.le_refl _) (Int.le_refl _) q.1 q.2 q1 q2 q3 q4
      have hl' := letV_le hk (x := q.1) (y := q.2)
      have hk2 := fun b => hk.mono (σ' := σ1.upd d b) fun r b h => upd_old hd0 h
      refine ⟨_, As.nm (i := 3), ?_⟩
      refine Xs.let 11 (.int (letV k q.1 q.2)) ?_ ?_
      · cases k with
        | none => exact De.is (De.ifexp (q := .none) (Dt.isNone (De.nm rfl)) (fun _ => De.num) fun h => nomatch (show true = false from h)) rfl
        | some k =>
          obtain ⟨h1, h2, h3, h4⟩ := hk2 (.dict (((placesV l t wd ht).take j).map ptKey) (((placesV l t wd ht).take j).map fun p => colP (dotV (manyV cs e p.1 p.2) opc (letV (some k) p.1 p.2) col (g p.1 p.2))))
          exact De.is (De.ifexp (p := .none) (Dt.isNone (De.nm rfl)) (fun h => nomatch (show false = true from h)) fun _ => De.meth (De.nm rfl) m_AlphaMap_alpha (by decide) (Ds.cons (De.fst (a := q) (De.nm rfl)) (Ds.cons (De.snd (a := q) (De.nm rfl)) Ds.nil)) (d_amap_alpha h1 (by (first | lia | omega)) (by (first | lia | omega)))) rfl
      refine Xs.cons (Ex.setDict (De.ev (De.fn f_law_dot (Ds.cons (De.nm rfl) (Ds.cons (De.nm rfl) (Ds.cons (De.nm rfl) (Ds.cons (De.dictGet (d := .dct (keysV l t wd ht) (colsV l t wd ht g)) (k := [q.1, q.2]) (De.nm rfl) (De.nm rfl) (.inl rfl) hi1 hi2) (Ds.cons (De.fst (a := q) (De.nm rfl)) (Ds.cons (De.snd (a := q) (De.nm rfl)) Ds.nil)))))) (d_law_dot hc (by (first | lia | omega)) (by (first | lia | omega)) hcol ⟨o0, o1⟩ hl')) ⟨d, _, _, ptKey q, De.nm rfl, De.nm rfl, upd_self, key_new places_nd hq, by rw [List.length_map, List.length_take]; (first | lia | omega), ?_⟩))
      rw [upd_upd]
      refine Xs.nil ⟨⟨_, _, rfl⟩, ?_⟩
      rw [List.take_add_one, hq, List.map_append, List.map_append]; rfl
    · obtain ⟨⟨u, v, rfl⟩, rfl⟩ := hI
      rw [List.length_map, List.take_length]
      refine Xs.frz (i := 10) rfl (.dict d _ _ upd_self) ?_
      rw [drop_upd hd0]
      refine Xs.let 12 (colP (l, t, wd, ht)) (De.tp (Ds.cons (De.fld (De.nm rfl) a_Canvas_left) (Ds.cons (De.fld (De.nm rfl) a_Canvas_top) (Ds.cons (De.fld (De.nm rfl) a_Canvas_width) (Ds.cons (De.fld (De.nm rfl) a_Canvas_height) Ds.nil))))) ?_
      refine Xs.cons (Ex.assign (i := 13) rfl (Ev.fn f_law_filled (Ds.es (l := [opP (Str.ofString "fill") cs e col opc k, colP (l, t, 1, ht), .dct (keysV l t wd ht) (colsV l t wd ht g)]) (Ds.cons (De.nm rfl) (Ds.cons (De.tp (Ds.cons (De.c0 (a := (l, t, wd, ht)) (De.nm rfl)) (Ds.cons (De.c1 (a := (l, t, wd, ht)) (De.nm rfl)) (Ds.cons De.num (Ds.cons (De.c3 (a := (l, t, wd, ht)) (De.nm rfl)) Ds.nil))))) (Ds.cons (De.nm rfl) Ds.nil))) (Ca.mono (d_law_filled (n := n) hc hz (by decide) (by decide) g0 g1 lb tb hcol ⟨o0, o1⟩ hk (grounds_of (Int.le_refl _) (by (first | lia | omega)) (Int.le_refl _) (Int.le_refl _))) fun p σ' hp => ?_))))
      obtain ⟨b, rfl, hb, rfl⟩ := hp
      have hkb := fun x => hk.mono (σ' := σ1.upd b x) fun r bx h => upd_old hb h
      refine Xs.cons (Ex.expr (Ev.bm (De.nm rfl) (.inr ⟨rfl, _, _, upd_self⟩) (Es.cons (De.ev (De.fn f_law_filled (Ds.cons (De.nm rfl) (Ds.cons (De.tp (Ds.cons (De.add (De.c0 (a := (l, t, wd, ht)) (De.nm rfl)) De.num) (Ds.cons (De.c1 (a := (l, t, wd, ht)) (De.nm rfl)) (Ds.cons (De.sub (De.c2 (a := (l, t, wd, ht)) (De.nm rfl)) De.num) (Ds.cons (De.c3 (a := (l, t, wd, ht)) (De.nm rfl)) Ds.nil))))) (Ds.cons (De.nm rfl) Ds.nil))) (Dc.ofDict (d_law_filled (n := n) (l := l + 1) (t := t) (wd := wd - 1) (ht := ht) hc hz p0 p1 g0 g1 pl tb hcol ⟨o0, o1⟩ (hkb _) (grounds_of (by (first | lia | omega)) (by (first | lia | omega)) (Int.le_refl _) (Int.le_refl _))))) (Es.nil (Ca.update upd_self rfl (keys_ne (by (first | lia | omega))) parts_nd ?_ ?_)))) PySem.F.plainAttrs_dict PySem.F.slot_dict_update PySem.F.type_dict_update))
      · have e := parts_len (l := l) (t := t) (wd := wd) (ht := ht) (by (first | lia | omega))
        rw [List.length_append] at e
        unfold keysV
        rw [List.length_map, List.length_map]
        (first | lia | omega)
      rw [upd_upd]
      refine Xs.frz (i := 13) rfl (.dict b _ _ upd_self) ?_
      rw [drop_upd hb]
      refine Xs.skip (Dt.is (Dt.or2 (Dt.cmpBy (De.fn f_law_filled (Ds.cons (De.nm rfl) (Ds.cons (De.nm rfl) (Ds.cons (De.nm rfl) Ds.nil))) (Dc.ofDict (d_law_filled (n := n) (l := l) (t := t) (wd := wd) (ht := ht) hc hz w0 w1 g0 g1 lb tb hcol ⟨o0, o1⟩ hk (grounds_of (Int.le_refl _) (Int.le_refl _) (Int.le_refl _) (Int.le_refl _))))) (De.nm rfl) ne_whole) fun _ => Dt.cmpBy (De.nm rfl) (De.nm rfl) (ne_parts (by (first | lia | omega)))) rfl) ?_
      with_reducible refine Xs.triL 14 ?_ ?_
      · rfl
      show Xs c (n + 9) _ _ (lawR sl s l t wd ht rows g cs col k e opc u (some (.dct (keysV l t wd ht) (colsV l t wd ht fun x y => dotV (manyV cs e x y) opc (letV k x y) col (g x y)))) v (some (colP (l, t, wd, ht))) (some (.dct (keysV l t 1 ht ++ keysV (l + 1) t (wd - 1) ht) (colsV l t 1 ht (fun x y => dotV (manyV cs e x y) opc (letV k x y) col (g x y)) ++ colsV (l + 1) t (wd - 1) ht fun x y => dotV (manyV cs e x y) opc (letV k x y) col (g x y)))) (some (contsP besideC)) none none none) σ1 _
      have same : ∀ (cs' : List (List Pt)) (op' : Int), Conts cs' → (sidesOf cs').length < 64 → 0 ≤ op' ∧ op' ≤ 255 → (∀ x y, l ≤ x → x < l + wd → t ≤ y → y < t + ht → dotV (manyV cs' e x y) op' (letV k x y) col (g x y) = g x y) →
          Dc c (n + 9) (.ref 530) [opP (Str.ofString "fill") cs' e col op' k, colP (l, t, wd, ht), .dct (keysV l t wd ht) (colsV l t wd ht g)] σ1 (.dct (keysV l t wd ht) (colsV l t wd ht g)) := fun cs' op' h1 h2 h3 h4 => by
        have h := Dc.ofDict (d_law_filled (wo := Str.ofString "fill") (e := e) (n := n) (l := l) (t := t) (wd := wd) (ht := ht) (c := c) h1 h2 w0 w1 g0 g1 lb tb hcol h3 hk (grounds_of (g := g) (Int.le_refl l) (Int.le_refl (l + wd)) (Int.le_refl t) (Int.le_refl (t + ht))))
        rw [cols_congr h4] at h
        exact h
      with_reducible refine Xs.step (fun ρ' σ' => (Some3 (fun u v o => lawR sl s l t wd ht rows g cs col k e opc u (some (.dct (keysV l t wd ht) (colsV l t wd ht fun x y => dotV (manyV cs e x y) opc (letV k x y) col (g x y)))) v (some (colP (l, t, wd, ht))) (some (.dct (keysV l t 1 ht ++ keysV (l + 1) t (wd - 1) ht) (colsV l t 1 ht (fun x y => dotV (manyV cs e x y) opc (letV k x y) col (g x y)) ++ colsV (l + 1) t (wd - 1) ht fun x y => dotV (manyV cs e x y) opc (letV k x y) col (g x y)))) (some (contsP besideC)) o none none) ρ') ∧ σ' = σ1) ?_ ?_
      · with_reducible refine Ex.for (It.sq (l := [opP (Str.ofString "fill") cs e col 0 k, opP (Str.ofString "fill") besideC e col opc k]) (De.bothB (a := opP (Str.ofString "fill") cs e col 0 k) (b := opP (Str.ofString "fill") besideC e col opc k) (De.changed (op := opc) ?_ ?_) (De.moved (wo := Str.ofString "fill") (cs := cs) ?_ ?_)) (.inl ?_) ?_) ?_
        · exact De.nm rfl
        · exact De.nm rfl
        · exact De.nm rfl
        · exact De.nm rfl
        · rfl
        · refine Loop.inv (I := fun j ρ' σ' => (Some3 (fun u v o => lawR sl s l t wd ht rows g cs col k e opc u (some (.dct (keysV l t wd ht) (colsV l t wd ht fun x y => dotV (manyV cs e x y) opc (letV k x y) col (g x y)))) v (some (colP (l, t, wd, ht))) (some (.dct (keysV l t 1 ht ++ keysV (l + 1) t (wd - 1) ht) (colsV l t 1 ht (fun x y => dotV (manyV cs e x y) opc (letV k x y) col (g x y)) ++ colsV (l + 1) t (wd - 1) ht fun x y => dotV (manyV cs e x y) opc (letV k x y) col (g x y)))) (some (contsP besideC)) o none none) ρ') ∧ σ' = σ1) (fun j p ρ σ2 hj hI => ?_) (fun ρ σ2 hI => hI) _ _ ⟨⟨u, v, none, rfl⟩, rfl⟩
          obtain ⟨⟨u, v, o, rfl⟩, hσ⟩ := hI
          rw [hσ]; clear hσ
          have hp : Dc c (n + 9) (.ref 530) [p, colP (l, t, wd, ht), .dct (keysV l t wd ht) (colsV l t wd ht g)] σ1 (.dct (keysV l t wd ht) (colsV l t wd ht g)) := by
            match j, hj with
            | 0, hj => cases hj; exact same cs 0 hc hz ⟨by decide, by decide⟩ fun x y _ _ _ _ => dot_no
            | 1, hj => cases hj; exact same besideC opc beside_conts.1 beside_conts.2 ⟨o0, o1⟩ fun x y h1 h2 _ _ => by rw [beside_many (by (first | lia | omega)), dot_zero]
            | j + 2, hj => simp at hj
          refine ⟨_, As.nm (i := 15), ?_⟩
          exact Xs.skip (Dt.cmpBy (De.fn f_law_filled (Ds.cons (De.nm rfl) (Ds.cons (De.nm rfl) (Ds.cons (De.nm rfl) Ds.nil))) hp) (De.nm rfl) ne_whole) (Xs.nil ⟨⟨_, _, _, rfl⟩, rfl⟩)
        · intro _; rfl
      intro ρ' σ' hI
      obtain ⟨⟨u, v, o, hρ⟩, hσ⟩ := hI
      rw [hρ, hσ]
      with_reducible refine Xs.quad 16 ?_ ?_
      · rfl
      have h1 : Dc c (n + 9) (.ref 530) [opP (Str.ofString "fill") [[(0, 0), (4, 0), (4, 4), (0, 4)]] false (100, 0, 0, 100) 255 none, colP (0, 0, 1, 1), .dct [[0, 0]] [colP (10, 20, 30, 255)]] σ1 (.dct [[0, 0]] [colP (106, 12, 18, 255)]) := by
        have h := Dc.ofDict (d_law_filled (wo := Str.ofString "fill") (e := false) (n := n) (l := 0) (t := 0) (wd := 1) (ht := 1) (c := c) (σ := σ1) (col := (100, 0, 0, 100)) (op := 255) (k := none) (g := fun _ _ => (10, 20, 30, 255)) (ks := [[0, 0]]) (ls := [colP (10, 20, 30, 255)]) square_conts.1 square_conts.2 (by decide) (by decide) (by decide) (by decide) (by decide) (by decide) ⟨by decide, by decide, by decide, by decide⟩ ⟨by decide, by decide⟩ trivial (fun x y h1 h2 h3 h4 => ⟨0, by
          have hx : x = 0 := by (first | lia | omega)
          have hy : y = 0 := by (first | lia | omega)
          subst hx; subst hy; rfl, rfl⟩))
        have e2 : (colsV 0 0 1 1 fun x y => dotV (manyV squareC false x y) 255 (letV none x y) (100, 0, 0, 100) (10, 20, 30, 255)) = [colP (106, 12, 18, 255)] := one_cols
        rw [e2] at h
        exact h
      with_reducible refine Xs.cons (Ex.assign (i := 17) (k := .local) ?_ (De.ev (De.fn f_law_filled (Ds.cons (De.oneOp (col := (100, 0, 0, 100)) (pts := [(0, 0), (4, 0), (4, 4), (0, 4)]) ?_ (De.fn f_Flat (Ds.cons De.four Ds.nil star_tup) d_Flat ?_ ?_ star_tup ?_)) (Ds.cons De.four (Ds.cons De.dot Ds.nil star_dict) star_tup) star_tup) h1 ?_ ?_ star_tup ?_) ?_) ?_ ?_)
      · rfl
      · exact De.nm rfl
      · rfl
      · decide
      · rfl
      · rfl
      · decide
      · rfl
      · show Xs c (n + 9) _ _ _ σ1 _
        with_reducible refine Xs.give (.bool true) (De.oneEq ?_) ?_
        · exact De.nm rfl
        · rfl
      · exact .inl rfl
      · rfl
end
theorem room0 : Room 10 callerA := ⟨by decide, by decide, rfl⟩
theorem ints_of_well {P : Params} {h : Heap} : ∀ {vs : List Value} {l : List Int}, WellAll P h vs ((l.map PyData.int).map ofPy) → IntsAre vs l
  | [], [], _ => .nil
  | [], _ :: _, x => nomatch x
  | _ :: _, [], x => nomatch x
  | v :: vs, i :: l, x => by
    cases x with
    | cons h1 h2 => cases h1 with
      | int i t => exact .cons i t (ints_of_well h2)
theorem reps_of_ints {prog : Program} {w : World} {h : Heap} {bad : Addr → Prop} : ∀ {vs : List Value} {l : List Int}, IntsAre vs l → Reps prog w h bad (intsP l) vs
  | _, _, .nil => Reps.nil
  | _, _, .cons i t x => Reps.cons Rep.int (reps_of_ints x)
theorem list_of_well {prog : Program} {w : World} {P : Params} {h : Heap} {a : Addr} {l : List Int} {bad : Addr → Prop} (hb : ¬ bad a) (x : Well P h (.ref a) (ofPy (.list (l.map .int)))) : Rep prog w h bad (.lst (intsP l)) (.ref a) := by
  have e : ofPy (.list (l.map .int)) = .list ((l.map PyData.int).map ofPy) := by rw [ofPy, ofPys_eq]
  rw [e] at x
  cases x with
  | list h1 h2 =>
    simp only [Rep]
    exact ⟨a, _, _, rfl, hb, h1, reps_of_ints (ints_of_well h2)⟩
theorem post_true {A : WData} : PySem.Challenge.rw_on0246_01.row.claim.post [A] (WData.bool true) [A] = true := by
  show WTm.holds [] (.eq .res (.lit (.bool true))) { args := [A], res := some (WData.bool true), after := [A] } = true
  simp [WTm.holds, WTm.value]
  decide +kernel
end Mine
theorem PySem.Challenge.cw_on0246_01_holds : PySem.Challenge.rw_on0246_01.Holds := by
  refine Mine.headN rfl rfl rfl ?_
  intro w s₀ s₁ mg mb G Y fa o pm cd doc dV kV ho hd' hcd hD hmg hg args vals as hpre hlay hrd hwl hlo
  have KX := kIn_of (K := Mine.heapK) (as := Mine.placesK) (e := Mine.places_ok) Y
  refine Ground.open G ?_
  intro T B D TE TW
  have hfa : fa = 542 := by
    have h1 := mg_of (n := Str.ofString "law") (v := .ref 542) KX T.g rfl
    have h2 := hmg.symm.trans h1
    exact Value.ref.inj (Option.some.inj h2)
  clear hcd hD hd' ho hmg
  wrow_args hpre hlay hrd hwl hlo
  subst hfa
  rename_i l _ _ _ _ _ _ _ a us _ hL ra w1 r0 hI _ hlen _
  let cx : Mine.Cx rw_on0246_01.row.prog w (Mine.heapK w.params) := ⟨s₁.heap, Mine.viewQ, _, mg, mb, KX, topRead_of T, 542, by decide, _, KX 542 _ rfl⟩
  have hS : Mine.Sat rw_on0246_01.row.prog w cx.G (fun _ => False) s₁.heap (fun _ => none) := ⟨fun a o e => e, fun a h => h.elim, fun a b e => nomatch e⟩
  have hl : l.length ≤ 1000 := by (first | lia | omega)
  have hb : ¬ Mine.Bad (fun _ => False) (fun _ => none) a := fun h => h.elim id fun h => h rfl
  have hc := Mine.d_law (c := cx) (n := 0) (σ := fun _ => none) hl callerA (fun _ => False) s₁ [.ref a] Mine.room0 hS (Mine.Reps.cons (Mine.list_of_well hb w1) Mine.Reps.nil)
  refine wpAny_mono hc (fun v s' h => ?_) fun _ _ h => h.elim
  obtain ⟨pv, σ', rv, S', x, rfl⟩ := h
  have hv := rv.bool_inv
  subst hv
  obtain ⟨h', tk, rfl⟩ := x.eq
  refine ⟨.inl ⟨.bool true, .bool true, [], rfl, fun cls => rfl, .bool true, Mine.post_true, fun _ => ⟨List.nodup_nil, fun a h => nomatch h⟩⟩, .of_keep fun b o e => x.keep b o e rfl fun h => h.elim, rfl, .of_eq hg⟩
